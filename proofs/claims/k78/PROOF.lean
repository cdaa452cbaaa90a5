import PyProof.Rows.All
import Wide.All
import OpenK.AllK
import Wide.FinOn
import HandS.ForMost
import HandS.Exc
import HandS.TupAny
import HandS.Zip
import HandS.Walk
import KE.SortData
import KE.DataMinMax
import KE.DataFind
import KE.DataAny
import KE.DataCmp
import KE.DataEq
import KE.KeyNested
import KE.KDictKeyed
import KE.KDictWalk
import KE.KDictCopyH
import KE.KDictList
import HandS.Lambda
import HandS.HeadHook1
import HandS.TupMul
import HandS.IsInst
import HandS.SortInts
import PyProof.SeqIndex
import HandS.CallSlots
import HandS.Style
import HandS.Dict
import KE.GoesMore
import HandS.Iter
import KE.GoesEnum
import HandS.SetFor
import HandS.Conv
import HandS.Strs
import HandS.Base
import HandS.Call
import HandS.ExcInit
import HandS.ExcSuper
import KE.KExcSuper
import KE.KSuper
import HandS.TryOnly
import HandS.More
import HandS.ExcField
import HandS.ExcIs
import HandS.Defaults
import HandS.Codes
import HandS.Words
import KE.KStateDown
import HandS.Ends
import HandS.WordsExc
import HandS.Head0
import HandS.Head1
import HandS.Head2
import HandS.HeadEnd
import HandS.HeadHook2
import HandS.EndTab
import HandS.HeadHook3
import PySem.Challenge.RW_lookonce_k78_may_the_new_book_come
set_option Elab.async false
set_option linter.all false
/-! DL.Ev: data, store, the small language, its evaluator. -/
namespace DL
open PySem L2

abbrev D := PyData
/-- a place of the store, as a datum -/
@[reducible] def rf (n : Nat) : D := .dict [(.int n, .none)]
/-- a list of ints that nobody may change (the script) -/
@[reducible] def ro (ns : List Int) : D := .dict [(.none, .list (ns.map .int))]
def isNone : D → Bool
  | .none => true
  | _ => false

mutual
def beqD : D → D → Bool
  | .none, .none => true
  | .bool a, .bool b => a == b
  | .int a, .int b => a == b
  | .str a, .str b => decide (a = b)
  | .list a, .list b => beqL a b
  | .tuple a, .tuple b => beqL a b
  | .dict a, .dict b => beqK a b
  | _, _ => false
def beqL : List D → List D → Bool
  | [], [] => true
  | a :: r, b :: s => beqD a b && beqL r s
  | _, _ => false
def beqK : List (D × D) → List (D × D) → Bool
  | [], [] => true
  | (a, x) :: r, (b, y) :: s => beqD a b && beqD x y && beqK r s
  | _, _ => false
end
mutual
@[simp] theorem beqD_refl : ∀ d : D, beqD d d = true
  | .none => rfl
  | .bool a => by simp [beqD]
  | .int a => by simp [beqD]
  | .str a => by simp [beqD]
  | .list a => by simpa [beqD] using beqL_refl a
  | .tuple a => by simpa [beqD] using beqL_refl a
  | .dict a => by simpa [beqD] using beqK_refl a
@[simp] theorem beqL_refl : ∀ d : List D, beqL d d = true
  | [] => rfl
  | a :: r => by simp [beqL, beqD_refl a, beqL_refl r]
@[simp] theorem beqK_refl : ∀ d : List (D × D), beqK d d = true
  | [] => rfl
  | (a, x) :: r => by simp [beqK, beqD_refl a, beqD_refl x, beqK_refl r]
end
mutual
theorem beqD_eq : ∀ {a b : D}, beqD a b = true → a = b
  | .none, b, h => by cases b <;> simp_all [beqD]
  | .bool a, b, h => by cases b <;> simp_all [beqD]
  | .int a, b, h => by cases b <;> simp_all [beqD]
  | .str a, b, h => by cases b <;> simp_all [beqD]
  | .list a, b, h => by
    cases b with
    | list b => rw [beqL_eq (a := a) (b := b) (by simpa [beqD] using h)]
    | _ => simp [beqD] at h
  | .tuple a, b, h => by
    cases b with
    | tuple b => rw [beqL_eq (a := a) (b := b) (by simpa [beqD] using h)]
    | _ => simp [beqD] at h
  | .dict a, b, h => by
    cases b with
    | dict b => rw [beqK_eq (a := a) (b := b) (by simpa [beqD] using h)]
    | _ => simp [beqD] at h
theorem beqL_eq : ∀ {a b : List D}, beqL a b = true → a = b
  | [], b, h => by cases b <;> simp_all [beqL]
  | a :: r, b, h => by
    cases b with
    | nil => simp [beqL] at h
    | cons b s =>
      simp [beqL] at h
      rw [beqD_eq h.1, beqL_eq h.2]
theorem beqK_eq : ∀ {a b : List (D × D)}, beqK a b = true → a = b
  | [], b, h => by cases b <;> simp_all [beqK]
  | (a, x) :: r, b, h => by
    cases b with
    | nil => simp [beqK] at h
    | cons b s =>
      obtain ⟨b, y⟩ := b
      simp [beqK] at h
      rw [beqD_eq h.1.1, beqD_eq h.1.2, beqK_eq h.2]
end

/-- what stands at a place of the store -/
inductive MO where
  | lst (xs : List D)
  | dct (kvs : List (D × D))
  | ins (c : Str) (fs : List (Str × D))
  | dki (kvs : List (L2.Key × D))
abbrev Store := List MO
inductive Res (α : Type) where
  | ok (a : α) (S : Store)
  | exc (c : Nat) (d : D) (S : Store)
  | bad
def Res.bind {α β : Type} : Res α → (α → Store → Res β) → Res β
  | .ok a S, f => f a S
  | .exc c d S, _ => .exc c d S
  | .bad, _ => .bad
@[simp] theorem Res.bind_ok {α β : Type} (a : α) (S : Store) (f : α → Store → Res β) : (Res.ok a S).bind f = f a S := rfl
@[simp] theorem Res.bind_exc {α β : Type} (c d S) (f : α → Store → Res β) : (Res.exc c d S).bind f = .exc c d S := rfl
@[simp] theorem Res.bind_bad {α β : Type} (f : α → Store → Res β) : (Res.bad).bind f = .bad := rfl

/-- a list's place -/
def locOf : D → Option Nat
  | .dict [(.int n, .none)] => some n.toNat
  | _ => none
/-- the list at a place -/
def atL (S : Store) (n : Nat) : Option (List D) := match S[n]? with
  | some (.lst xs) => some xs
  | _ => none
/-- the dict at a place -/
def atK (S : Store) (n : Nat) : Option (List (D × D)) := match S[n]? with
  | some (.dct kvs) => some kvs
  | _ => none
mutual
/-- what may be a part of a key: ints, texts, None, rows of them -/
def keyOk : D → Bool
  | .none => true
  | .int _ => true
  | .str _ => true
  | .tuple xs => keyOkL xs
  | _ => false
def keyOkL : List D → Bool
  | [] => true
  | x :: r => keyOk x && keyOkL r
end
mutual
def keyDep : D → Nat
  | .tuple xs => keyDepL xs + 1
  | _ => 0
def keyDepL : List D → Nat
  | [] => 0
  | x :: r => max (keyDep x) (keyDepL r)
end
/-- d[k] = v -/
def dput : List (D × D) → D → D → List (D × D)
  | [], k, v => [(k, v)]
  | (a, x) :: r, k, v => if beqD a k then (a, v) :: r else (a, x) :: dput r k v
def setK (S : Store) (n : Nat) (kvs : List (D × D)) : Store := S.set n (.dct kvs)
/-- a list's items, at a place or as it stands -/
def lstOf (S : Store) : D → Option (List D)
  | .list xs => some xs
  | .dict [(.int n, .none)] => atL S n.toNat
  | .dict [(.none, .list xs)] => some xs
  | _ => none
/-- .. of one that isn't the script -/
def lstOfM (S : Store) : D → Option (List D)
  | .list xs => some xs
  | .dict [(.int n, .none)] => atL S n.toNat
  | _ => none
def seqOf (S : Store) : D → Option (List D)
  | .tuple xs => some xs
  | .list xs => some xs
  | .dict [(.int n, .none)] => atL S n.toNat
  | .dict [(.none, .list xs)] => some xs
  | _ => none
/-- a datum with the list that stands at its place -/
def res (S : Store) : D → D
  | .dict [(.int n, .none)] => match atL S n.toNat with
    | some xs => .list xs
    | none => .dict [(.int n, .none)]
  | d => d
/-- a new list: at a place of its own, or never to be changed -/
def mkL (m : Bool) (xs : List D) (S : Store) : Res D := if xs.length ≤ sizeLine then (if m then .ok (rf S.length) (S ++ [.lst xs]) else .ok (.list xs) S) else .bad
def mkT (xs : List D) (S : Store) : Res D := if xs.length ≤ sizeLine then .ok (.tuple xs) S else .bad

def small64 (i : Int) : Bool := decide (-(2 ^ 64) < i ∧ i < 2 ^ 64)
def binV (o : Operator) (m : Bool) (a b : D) (S : Store) : Res D :=
  match o, a, b with
  | .Add, .int i, .int j => .ok (.int (i + j)) S
  | .Sub, .int i, .int j => .ok (.int (i - j)) S
  | .Mult, .int i, .int j => if small64 i || small64 j then .ok (.int (i * j)) S else .bad
  | .FloorDiv, .int i, .int j => if 0 < j ∧ j < 1073741824 then .ok (.int (i / j)) S else .bad
  | .Mod, .int i, .int j => if 0 < j then .ok (.int (i % j)) S else .bad
  | .Pow, .int i, .int j => if 0 ≤ j ∧ j ≤ 1000000 ∧ i.natAbs < 2 ^ 64 then .ok (.int (i ^ j.toNat)) S else .bad
  | .Add, .tuple x, .tuple y => mkT (x ++ y) S
  | .Add, a, b => match lstOfM S a, lstOfM S b with
    | some x, some y => mkL m (x ++ y) S
    | _, _ => .bad
  | .Mult, .tuple xs, .int k => if (xs ≠ [] ∧ 2 ≤ k ∧ k ≤ 1000) ∧ xs.length ≤ 1000 then .ok (.tuple (List.replicate k.toNat xs).flatten) S else .bad
  | .Mult, .list xs, .int k => if (-(2 ^ 63) ≤ k ∧ k < 2 ^ 63) ∧ xs.length * k.toNat ≤ sizeLine then mkL m (List.replicate k.toNat xs).flatten S else .bad
  | _, _, _ => .bad

def eqOk (a b : D) : Bool := a.plain && b.plain && decide (min a.depth b.depth ≤ 60)
def ltOk (a b : D) : Bool := (a.plain && b.plain) && (PySem.W.alike a b && !isNone a && decide (min a.depth b.depth ≤ 60))
def inOk (xs : List D) (a : D) : Bool := PyData.plainAll xs && a.plain && decide (min (PyData.depthAll xs) a.depth ≤ 60)
def isConst : D → Bool
  | .none => true
  | .bool _ => true
  | _ => false
def cmpV (o : CmpOp) (a b : D) (S : Store) : Res D :=
  match o with
  | .Eq => if eqOk (res S a) (res S b) then .ok (.bool (PyData.eqv (res S a) (res S b))) S else .bad
  | .NotEq => if eqOk (res S a) (res S b) then .ok (.bool (!PyData.eqv (res S a) (res S b))) S else .bad
  | .Lt => if ltOk (res S a) (res S b) then .ok (.bool (PySem.W.dataLt (res S a) (res S b))) S else .bad
  | .Gt => if ltOk (res S a) (res S b) then .ok (.bool (PySem.W.dataLt (res S b) (res S a))) S else .bad
  | .LtE => if ltOk (res S a) (res S b) then .ok (.bool (!PySem.W.dataLt (res S b) (res S a))) S else .bad
  | .GtE => if ltOk (res S a) (res S b) then .ok (.bool (!PySem.W.dataLt (res S a) (res S b))) S else .bad
  | .Is => if isConst b then .ok (.bool (beqD a b)) S else .bad
  | .IsNot => if isConst b then .ok (.bool (!beqD a b)) S else .bad
  | .In => match seqOf S b with
    | some xs => if inOk xs (res S a) then .ok (.bool (xs.any fun y => PyData.eqv y (res S a))) S else .bad
    | none => .bad
  | .NotIn => match seqOf S b with
    | some xs => if inOk xs (res S a) then .ok (.bool (!xs.any fun y => PyData.eqv y (res S a))) S else .bad
    | none => .bad

/-- x op= y, of ints -/
def augV (o : Operator) (a b : D) (S : Store) : Res D := match a, b with
  | .int i, .int j => binV o false (.int i) (.int j) S
  | _, _ => .bad
/-- xs[i] -/
def atD (xs : List D) (i : Int) : Option D := atI xs i
def subV (a b : D) (S : Store) : Res D :=
  match b, seqOf S a with
  | .int i, some xs => match atI xs i with
    | some d => .ok d S
    | none => .bad
  | _, _ => .bad
/-- a table of the module with text keys, read -/
def kdV (kvs : List (Str × D)) (a : D) (S : Store) : Res D := match a with
  | .str z => match kvs.lookup z with
    | some d => .ok d S
    | none => .bad
  | _ => .bad
def cutD (xs : List D) (lo hi : Option Int) : List D := (xs.drop (HT.sIx xs.length 0 lo)).take (HT.sIx xs.length xs.length hi - HT.sIx xs.length 0 lo)
def slcV (m : Bool) (a : D) (l h : Option Int) (S : Store) : Res D :=
  match a with
  | .tuple xs => .ok (.tuple (cutD xs l h)) S
  | a => match lstOf S a with
    | some xs => mkL m (cutD xs l h) S
    | none => .bad
/-- a bound of a slice; ab: it isn't told -/
def Res.bnd (ab : Bool) (r : Res D) : Res (Option Int) := r.bind fun d S => match d with
  | .int i => .ok (some i) S
  | .none => if ab = true then .ok none S else .bad
  | _ => .bad

inductive Blt where
  | len | abs | int | list | keys | tuple | sorted | sortset | all | any | sum | min1 | max1 | min2 | max2 | lrng1 | lrng2 | isT (t : Nat)
  deriving DecidableEq
inductive Mth where
  | append | remove | pop | popAt | extend | index
  deriving DecidableEq
/-- 0 int, 1 bool, 2 tuple, 3 str, 4 list -/
def isTy (S : Store) : Nat → D → Option Bool
  | 0, .int _ => some true | 0, .bool _ => some true
  | 1, .bool _ => some true
  | 2, .tuple _ => some true
  | 3, .str _ => some true
  | 4, .list _ => some true
  | t, d => if t ≤ 4 then (match d with
    | .dict _ => (lstOf S d).map fun _ => t == 4
    | _ => some false) else none
def intsOf : List D → Option (List Int)
  | [] => some []
  | .int i :: r => (intsOf r).map (i :: ·)
  | _ => none
def boolsOf : List D → Option (List Bool)
  | [] => some []
  | .bool b :: r => (boolsOf r).map (b :: ·)
  | _ => none
def alikeB (xs : List D) : Bool := xs.all fun x => xs.all fun y => PySem.W.alike x y
def isTup1 : D → Bool
  | .tuple (_ :: _) => true
  | _ => false
def isTupN : D → Bool
  | .tuple _ => true
  | .none => true
  | _ => false
def sortOk (xs : List D) : Bool := PyData.plainAll xs && alikeB xs && (xs.all isTup1 || xs.all fun x => !isTupN x) && xs.all fun x => decide (x.depth ≤ 60)
def sortD (xs : List D) : List D := xs.mergeSort (PySem.W.dataLe false id)
/-- ascending, each once -/
def uins (x : Int) : List Int → List Int
  | [] => [x]
  | y :: r => if x < y then x :: y :: r else if x = y then y :: r else y :: uins x r
def usort (xs : List Int) : List Int := xs.foldr uins []
/-- the ints i .. j - 1 -/
def rngD (i j : Int) : List D := (List.range (j - i).toNat).map fun (k : Nat) => .int (i + (k : Int))
def lenV : List D → Store → Res D
  | [a], S => match seqOf S a with
    | some xs => .ok (.int xs.length) S
    | none => .bad
  | _, _ => .bad
def absV : List D → Store → Res D
  | [.int i], S => .ok (.int (if i < 0 then -i else i)) S
  | _, _ => .bad
def intV : List D → Store → Res D
  | [.int i], S => .ok (.int i) S
  | _, _ => .bad
def listV (m : Bool) : List D → Store → Res D
  | [a], S => match seqOf S a with
    | some xs => mkL m xs S
    | none => .bad
  | _, _ => .bad
def tupleV : List D → Store → Res D
  | [a], S => match seqOf S a with
    | some xs => .ok (.tuple xs) S
    | none => .bad
  | _, _ => .bad
def sortedV (m : Bool) : List D → Store → Res D
  | [a], S => match seqOf S a with
    | some xs => if sortOk xs then mkL m (sortD xs) S else .bad
    | none => .bad
  | _, _ => .bad
/-- sorted(set(x)) of a list of ints -/
def sortsetV (m : Bool) : List D → Store → Res D
  | [a], S => match seqOf S a with
    | some xs => match intsOf xs with
      | some is => if is.length < 64 then mkL m ((usort is).map .int) S else .bad
      | none => .bad
    | none => .bad
  | _, _ => .bad
def allV : List D → Store → Res D
  | [a], S => match lstOf S a with
    | some xs => match boolsOf xs with
      | some bs => .ok (.bool (bs.all id)) S
      | none => .bad
    | none => .bad
  | _, _ => .bad
def anyV : List D → Store → Res D
  | [a], S => match lstOf S a with
    | some xs => match boolsOf xs with
      | some bs => .ok (.bool (bs.any id)) S
      | none => .bad
    | none => .bad
  | _, _ => .bad
def sumV : List D → Store → Res D
  | [a], S => match lstOf S a with
    | some xs => match intsOf xs with
      | some is => .ok (.int is.sum) S
      | none => .bad
    | none => .bad
  | _, _ => .bad
def max2V : List D → Store → Res D
  | [.int i, .int j], S => .ok (.int (if j > i then j else i)) S
  | _, _ => .bad
def min2V : List D → Store → Res D
  | [.int i, .int j], S => .ok (.int (if j < i then j else i)) S
  | _, _ => .bad
def isTV (t : Nat) : List D → Store → Res D
  | [a], S => match isTy S t a with
    | some b => .ok (.bool b) S
    | none => .bad
  | _, _ => .bad
/-- list(range(j)), list(range(i, j)) -/
def lrng1V (m : Bool) : List D → Store → Res D
  | [.int j], S => if -(2 ^ 62) ≤ j ∧ j ≤ 16777216 then mkL m (rngD 0 j) S else .bad
  | _, _ => .bad
def lrng2V (m : Bool) : List D → Store → Res D
  | [.int i, .int j], S => if 0 ≤ i ∧ i ≤ 16777216 ∧ 0 ≤ j ∧ j ≤ 16777216 then mkL m (rngD i j) S else .bad
  | _, _ => .bad
/-- list(d) of a dict -/
def keysV (m : Bool) : List D → Store → Res D
  | [a], S => match locOf a with
    | some n => match atK S n with
      | some kvs => mkL m (kvs.map (·.1)) S
      | none => .bad
    | none => .bad
  | _, _ => .bad
def bltV (b : Blt) (m : Bool) : List D → Store → Res D := match b with
  | .len => lenV
  | .abs => absV
  | .int => intV
  | .list => listV m
  | .keys => keysV m
  | .tuple => tupleV
  | .sorted => sortedV m
  | .sortset => sortsetV m
  | .all => allV
  | .any => anyV
  | .sum => sumV
  | .max2 => max2V
  | .min2 => min2V
  | .isT t => isTV t
  | .lrng1 => lrng1V m
  | .lrng2 => lrng2V m
  | _ => fun _ _ => .bad
def setL (S : Store) (n : Nat) (xs : List D) : Store := S.set n (.lst xs)
def appendV (n : Nat) (xs : List D) : List D → Store → Res D
  | [a], S => if xs.length < sizeLine then .ok .none (setL S n (xs ++ [a])) else .bad
  | _, _ => .bad
def removeV (n : Nat) (xs : List D) : List D → Store → Res D
  | [a], S => if inOk xs (res S a) then (match SeqAt.dataPlace xs (res S a) with
    | some j => .ok .none (setL S n (xs.eraseIdx j))
    | none => .bad) else .bad
  | _, _ => .bad
def popAtV (n : Nat) (xs : List D) : List D → Store → Res D
  | [.int i], S => match ixN xs.length i with
    | some j => match xs[j]? with
      | some y => .ok y (setL S n (xs.eraseIdx j))
      | none => .bad
    | none => .bad
  | _, _ => .bad
def popV (n : Nat) (xs : List D) : List D → Store → Res D
  | [], S => match xs[xs.length - 1]? with
    | some y => .ok y (setL S n xs.dropLast)
    | none => .bad
  | _, _ => .bad
def extendV (n : Nat) (xs : List D) : List D → Store → Res D
  | [a], S => match lstOfM S a with
    | some ys => if xs.length + ys.length ≤ sizeLine then .ok .none (setL S n (xs ++ ys)) else .bad
    | none => .bad
  | _, _ => .bad
/-- o.index(x) of a list -/
def indexV (o : D) : List D → Store → Res D
  | [a], S => match lstOfM S o with
    | some xs => if inOk xs (res S a) then (match SeqAt.dataPlace xs (res S a) with
      | some j => .ok (.int j) S
      | none => .bad) else .bad
    | none => .bad
  | _, _ => .bad
def onL (f : Nat → List D → List D → Store → Res D) (o : D) (vs : List D) (S : Store) : Res D := match locOf o with
  | some n => match atL S n with
    | some xs => f n xs vs S
    | none => .bad
  | none => .bad
def mthV (k : Mth) (o : D) (vs : List D) (S : Store) : Res D := match k with
  | .append => onL appendV o vs S
  | .remove => onL removeV o vs S
  | .popAt => onL popAtV o vs S
  | .pop => onL popV o vs S
  | .extend => onL extendV o vs S
  | .index => indexV o vs S

/-- targets: names and rows of them -/
inductive Tg where
  | nm (i : Nat)
  | tup (l : List Tg)
abbrev Env := List (Option D)
mutual
def bindT : Tg → D → Env → Option Env
  | .nm i, d, env => some (env.set i (some d))
  | .tup ts, d, env => match d with
    | .tuple xs => bindTs ts xs env
    | _ => none
def bindTs : List Tg → List D → Env → Option Env
  | [], [], env => some env
  | t :: ts, x :: xs, env => (bindT t x env).bind fun env' => bindTs ts xs env'
  | _, _, _ => none
end
inductive IK where
  | val | rng1 | rng2 | enum | zip | rngd
  deriving DecidableEq
/-- what is walked, and the place that must stand still meanwhile -/
abbrev ItR := Res (List D × Option Nat)
def valI : List D → Store → ItR
  | [a], S => match seqOf S a with
    | some xs => .ok (xs, locOf a) S
    | none => .bad
  | _, _ => .bad
def rng1I : List D → Store → ItR
  | [.int j], S => if -(2 ^ 62) ≤ j ∧ j < 2 ^ 62 ∧ j ≤ sizeLine then .ok ((List.range j.toNat).map fun (i : Nat) => .int (i : Int), none) S else .bad
  | _, _ => .bad
def rng2I : List D → Store → ItR
  | [.int i, .int j], S => if (-(2 ^ 62) ≤ i ∧ i < 2 ^ 62 ∧ -(2 ^ 62) ≤ j ∧ j < 2 ^ 62) ∧ j - i ≤ sizeLine then .ok ((List.range (j - i).toNat).map fun (k : Nat) => .int (i + (k : Int)), none) S else .bad
  | _, _ => .bad
def enumI : List D → Store → ItR
  | [a], S => match seqOf S a with
    | some xs => .ok (xs.mapIdx fun i x => .tuple [.int i, x], locOf a) S
    | none => .bad
  | _, _ => .bad
def zipI : List D → Store → ItR
  | [a, b], S => match a, b with
    | .tuple xs, .tuple ys => .ok (List.zipWith (fun x y => .tuple [x, y]) xs ys, none) S
    | a, b => match lstOf S a, lstOf S b, locOf b with
      | some xs, some ys, none => .ok (List.zipWith (fun x y => .tuple [x, y]) xs ys, locOf a) S
      | _, _, _ => .bad
  | _, _ => .bad
/-- downwards, a step of -1 -/
def rngdI : List D → Store → ItR
  | [.int i, .int j, .int (-1)], S => if (-(2 ^ 62) ≤ i ∧ i < 2 ^ 62 ∧ -(2 ^ 62) ≤ j ∧ j < 2 ^ 62) ∧ i - j ≤ sizeLine then .ok ((List.range (i - j).toNat).map fun (k : Nat) => .int (i - (k : Int)), none) S else .bad
  | _, _ => .bad
def itemsV (k : IK) : List D → Store → ItR := match k with
  | .val => valI
  | .rng1 => rng1I
  | .rng2 => rng2I
  | .enum => enumI
  | .zip => zipI
  | .rngd => rngdI
def still (g : Option Nat) (S0 S : Store) : Bool := match g with
  | none => true
  | some n => match atL S0 n, atL S n with
    | some xs, some ys => beqL xs ys
    | _, _ => false

/-- what an except suite may say of its exception: its field, of which classes it is -/
inductive HE where
  | c (d : D)
  | at_
  | is (tb : List (Nat × Bool))
  | v (i : Nat)
  | and (a b : HE)
  | or (a b : HE)
  | not (a : HE)
  | ite (t a b : HE)
  | tup (l : List HE)
mutual
def hev (c : Nat) (d : D) (env : List (Option D)) : HE → Option D
  | .c z => some z
  | .at_ => some d
  | .is tb => (tb.lookup c).map .bool
  | .v i => match env[i]? with
    | some (some z) => some z
    | _ => none
  | .and a b => match hev c d env a with
    | some (.bool true) => hev c d env b
    | some (.bool false) => some (.bool false)
    | _ => none
  | .or a b => match hev c d env a with
    | some (.bool true) => some (.bool true)
    | some (.bool false) => hev c d env b
    | _ => none
  | .not a => match hev c d env a with
    | some (.bool k) => some (.bool (!k))
    | _ => none
  | .ite t a b => match hev c d env t with
    | some (.bool true) => hev c d env a
    | some (.bool false) => hev c d env b
    | _ => none
  | .tup l => (hevs c d env l).map .tuple
def hevs (c : Nat) (d : D) (env : List (Option D)) : List HE → Option (List D)
  | [] => some []
  | a :: r => match hev c d env a, hevs c d env r with
    | some x, some xs => some (x :: xs)
    | _, _ => none
end
/-- the suite's statements -/
inductive HS where
  | set (i : Nat) (e : HE)
  | ret (e : HE)
  | ifr (t e : HE)
inductive HO2 where
  | rt (d : D)
  | nx (env : List (Option D))
def hrun (c : Nat) (d : D) : List HS → List (Option D) → Option HO2
  | [], env => some (.nx env)
  | .set i e :: r, env => match hev c d env e with
    | some z => hrun c d r (env.set i (some z))
    | none => none
  | .ret e :: _, env => (hev c d env e).map .rt
  | .ifr t e :: r, env => match hev c d env t with
    | some (.bool true) => (hev c d env e).map .rt
    | some (.bool false) => hrun c d r env
    | _ => none
/-- expressions -/
inductive Ex where
  | c (d : D)
  | v (i : Nat)
  | bin (o : Operator) (m : Bool) (a b : Ex)
  | cmp (o : CmpOp) (a b : Ex)
  | chain (o o' : CmpOp) (a b c : Ex)
  | neg (a : Ex)
  | not (a : Ex)
  | and (a b : Ex)
  | or (a b : Ex)
  | ite (t a b : Ex)
  | tup (l : List Ex)
  | lst (m : Bool) (l : List Ex)
  | dct0
  | sub (a b : Ex)
  | kd (kvs : List (Str × D)) (a : Ex)
  | slc (m : Bool) (a lo hi : Ex)
  | call (f : Nat) (l : List Ex) (dd : List D)
  | blt (b : Blt) (m : Bool) (l : List Ex)
  | mth (k : Mth) (o : Ex) (l : List Ex)
  | comp (m : Bool) (own : List Nat) (t : Tg) (k : IK) (its : List Ex) (ifs : List Ex) (elt : Ex)
  | heard (told : Str) (sl : Nat) (yes : List Nat) (l : List HS) (e : Ex)

def isAbs : Ex → Bool
  | .c .none => true
  | _ => false
def wipeE (env : Env) : List Nat → Env
  | [] => env
  | v :: vs => (wipeE env vs).set v none
/-- a comprehension's turns -/
def compLoop (g : Option Nat) (S0 : Store) (f : D → Store → Res (Option D)) : List D → List D → Store → Res (List D)
  | [], acc, S => if still g S0 S then .ok acc S else .bad
  | x :: r, acc, S => if still g S0 S then (f x S).bind fun o S' => compLoop g S0 f r (match o with | some y => acc ++ [y] | none => acc) S' else .bad
/-- .. where the list has a place of its own from the start -/
def compLoopM (g : Option Nat) (S0 : Store) (n : Nat) (f : D → Store → Res (Option D)) : List D → Store → Res Unit
  | [], S => if still g S0 S then .ok () S else .bad
  | x :: r, S => if still g S0 S then (f x S).bind fun o S' => match o with
      | some y => match atL S' n with
        | some acc => if acc.length < sizeLine then compLoopM g S0 n f r (setL S' n (acc ++ [y])) else .bad
        | none => .bad
      | none => compLoopM g S0 n f r S' else .bad
def Res.noexc {α : Type} : Res α → Res α
  | .exc _ _ _ => .bad
  | r => r
@[simp] theorem Res.noexc_ok {α : Type} (a : α) (S : Store) : (Res.ok a S).noexc = .ok a S := rfl
@[simp] theorem Res.noexc_bad {α : Type} : (Res.bad : Res α).noexc = .bad := rfl
def compEnd (m : Bool) (g : Option Nat) (S0 : Store) (f : D → Store → Res (Option D)) (items : List D) (S : Store) : Res D :=
  if m = true then Res.noexc (compLoopM g S0 S.length f items (S ++ [.lst []])) |>.bind fun _ S' => .ok (rf S.length) S'
  else Res.noexc (compLoop g S0 f items [] S) |>.bind fun acc S' => if acc.length ≤ sizeLine then .ok (.list acc) S' else .bad
def asBool : D → Option Bool
  | .bool b => some b
  | _ => none
def Res.test {β : Type} (r : Res D) (f : Bool → Store → Res β) : Res β := r.bind fun d S => match asBool d with
  | some b => f b S
  | none => .bad
abbrev FS := Nat → List D → Store → Res D
/-- a def that calls what it got: try: return (told, ask()), except: the suite -/
def heardV (told : Str) (sl : Nat) (yes : List Nat) (l : List HS) : Res D → Res D
  | .ok d S => .ok (.tuple [.str told, d]) S
  | .exc c d S => if yes.contains c then (match hrun c d l (List.replicate sl none) with
    | some (.rt z) => .ok z S
    | _ => .bad) else .bad
  | .bad => .bad
mutual
def ev (F : FS) : Ex → Env → Store → Res D
  | .c d, _, S => .ok d S
  | .v i, env, S => match env[i]? with
    | some (some d) => .ok d S
    | _ => .bad
  | .bin o m a b, env, S => (ev F a env S).bind fun x S1 => (ev F b env S1).bind fun y S2 => binV o m x y S2
  | .cmp o a b, env, S => (ev F a env S).bind fun x S1 => (ev F b env S1).bind fun y S2 => cmpV o x y S2
  | .chain o o' a b c, env, S => (ev F a env S).bind fun x S1 => (ev F b env S1).bind fun y S2 => (cmpV o x y S2).test fun k S3 =>
      if k = true then (ev F c env S3).bind fun z S4 => cmpV o' y z S4 else .ok (.bool false) S3
  | .neg a, env, S => (ev F a env S).bind fun x S1 => match x with
    | .int i => .ok (.int (-i)) S1
    | _ => .bad
  | .not a, env, S => (ev F a env S).test fun b S1 => .ok (.bool (!b)) S1
  | .and a b, env, S => (ev F a env S).test fun k S1 => if k = true then ev F b env S1 else .ok (.bool false) S1
  | .or a b, env, S => (ev F a env S).test fun k S1 => if k = true then .ok (.bool true) S1 else ev F b env S1
  | .ite t a b, env, S => (ev F t env S).test fun k S1 => if k = true then ev F a env S1 else ev F b env S1
  | .tup l, env, S => (evs F l env S).bind fun xs S1 => mkT xs S1
  | .lst m l, env, S => (evs F l env S).bind fun xs S1 => mkL m xs S1
  | .dct0, env, S => .ok (rf S.length) (S ++ [.dct []])
  | .sub a b, env, S => (ev F a env S).bind fun x S1 => (ev F b env S1).bind fun y S2 => subV x y S2
  | .kd kvs a, env, S => (ev F a env S).bind fun x S1 => kdV kvs x S1
  | .slc m a lo hi, env, S => (ev F a env S).bind fun x S1 => (Res.bnd (isAbs lo) (ev F lo env S1)).bind fun y S2 => (Res.bnd (isAbs hi) (ev F hi env S2)).bind fun z S3 => slcV m x y z S3
  | .call f l dd, env, S => (evs F l env S).bind fun xs S1 => F f (xs ++ dd) S1
  | .blt b m l, env, S => (evs F l env S).bind fun xs S1 => bltV b m xs S1
  | .mth k o l, env, S => (ev F o env S).bind fun x S1 => match lstOf S1 x with
    | none => .bad
    | some _ => (evs F l env S1).bind fun xs S2 => mthV k x xs S2
  | .comp m own t k its ifs elt, env, S => (evs F its env S).bind fun vs S1 => (itemsV k vs S1).bind fun (items, g) S2 =>
      compEnd m g S2 (fun x S3 => match bindT t x (wipeE env own) with
        | none => .bad
        | some env' => (evAll F ifs env' S3).bind fun b S4 => if b = true then (ev F elt env' S4).bind fun y S5 => .ok (some y) S5 else .ok none S4) items S2
  | .heard told sl yes l e, env, S => heardV told sl yes l (ev F e env S)
def evs (F : FS) : List Ex → Env → Store → Res (List D)
  | [], _, S => .ok [] S
  | a :: r, env, S => (ev F a env S).bind fun x S1 => (evs F r env S1).bind fun xs S2 => .ok (x :: xs) S2
def evAll (F : FS) : List Ex → Env → Store → Res Bool
  | [], _, S => .ok true S
  | a :: r, env, S => (ev F a env S).test fun k S1 => if k = true then evAll F r env S1 else .ok false S1
end

/-! ### statements -/
/-- what an except clause does: returns a constant; raises a further one, from None -/
inductive Hd where
  | rc (d : D)
  | rr (c : Nat) (e : Ex)
inductive Sm where
  | asg (t : Tg) (e : Ex)
  | setS (o i e : Ex)
  | aug (i : Nat) (op : Operator) (e : Ex)
  | ifs (t : Ex) (a b : List Sm)
  | whl (t : Ex) (b : List Sm)
  | frl (t : Tg) (k : IK) (its : List Ex) (b : List Sm)
  | ret (e : Ex)
  | exp (e : Ex)
  | pass | brk | cont
  | try0 (b : List Sm)
  | tryC (b : List Sm) (yes no : List Nat) (h : Hd)
  | tryA (b : List Sm) (yes no : List Nat) (i : Nat) (l : List HS)
  | raise (c : Nat) (e : Ex)
  | never
inductive Out where
  | nx (env : Env) (S : Store)
  | rt (d : D) (S : Store)
  | bk (env : Env) (S : Store)
  | ct (env : Env) (S : Store)
  | exc (c : Nat) (d : D) (env : Env) (S : Store)
  | bad
def Res.out {α : Type} (env : Env) : Res α → (α → Store → Out) → Out
  | .ok a S, f => f a S
  | .exc c d S, _ => .exc c d env S
  | .bad, _ => .bad
@[simp] theorem Res.out_ok {α : Type} (env a) (S : Store) (f : α → Store → Out) : Res.out env (Res.ok a S) f = f a S := rfl
@[simp] theorem Res.out_exc {α : Type} (env c d S) (f : α → Store → Out) : Res.out env (Res.exc c d S) f = .exc c d env S := rfl
@[simp] theorem Res.out_bad {α : Type} (env) (f : α → Store → Out) : Res.out env (Res.bad) f = .bad := rfl
def Res.outB (env : Env) (r : Res D) (f : Bool → Store → Out) : Out := Res.out env r fun d S => match asBool d with
  | some b => f b S
  | none => .bad
/-- where nothing may be raised -/
def Out.noexc : Out → Out
  | .exc _ _ _ _ => .bad
  | o => o
def Out.seq : Out → (Env → Store → Out) → Out
  | .nx env S, f => f env S
  | o, _ => o
def setItemV (o i v : D) (S : Store) : Option Store := match locOf o, i with
  | some n, .int j => (atL S n).bind fun xs => (ixN xs.length j).map fun k => setL S n (xs.set k v)
  | some n, .tuple ks => (atK S n).bind fun kvs => if (keyOk (.tuple ks) && decide (keyDep (.tuple ks) ≤ 8)) && decide (kvs.length < 1000000) then some (setK S n (dput kvs (.tuple ks) v)) else none
  | _, _ => none
def forLoop (g : Option Nat) (S0 : Store) (f : D → Env → Store → Out) : List D → Env → Store → Out
  | [], env, S => if still g S0 S then .nx env S else .bad
  | x :: r, env, S => if still g S0 S then (match f x env S with
    | .nx env' S' => forLoop g S0 f r env' S'
    | .ct env' S' => forLoop g S0 f r env' S'
    | .bk env' S' => .nx env' S'
    | o => o) else .bad
def whlLoop (c : Env → Store → Res D) (f : Env → Store → Out) : Nat → Env → Store → Out
  | 0, _, _ => .bad
  | n + 1, env, S => Res.outB env (c env S) fun k S1 => if k = true then (match f env S1 with
    | .nx env' S' => whlLoop c f n env' S'
    | .ct env' S' => whlLoop c f n env' S'
    | .bk env' S' => .nx env' S'
    | o => o) else .nx env S1
def execH (F : FS) : Hd → Env → Store → Out
  | .rc d, _, S => .rt d S
  | .rr c e, env, S => Res.out env (ev F e env S).noexc fun d S1 => .exc c d env S1
/-- the most turns of a while -/
def whlMost : Nat := 1000000
mutual
def exec (F : FS) : Sm → Env → Store → Out
  | .asg t e, env, S => Res.out env (ev F e env S) fun d S1 => match bindT t d env with
    | some env' => .nx env' S1
    | none => .bad
  | .setS o i e, env, S => Res.out env (ev F e env S) fun d S1 => Res.out env (ev F o env S1) fun x S2 => Res.out env (ev F i env S2) fun y S3 => match setItemV x y d S3 with
    | some S4 => .nx env S4
    | none => .bad
  | .aug i op e, env, S => match env[i]? with
    | some (some x) => Res.out env (ev F e env S) fun y S1 => Res.out env (augV op x y S1) fun z S2 => .nx (env.set i (some z)) S2
    | _ => .bad
  | .ifs t a b, env, S => Res.outB env (ev F t env S) fun k S1 => if k = true then execs F a env S1 else execs F b env S1
  | .whl t b, env, S => whlLoop (ev F t) (execs F b) whlMost env S
  | .frl t k its b, env, S => Res.out env (evs F its env S) fun vs S1 => Res.out env (itemsV k vs S1) fun (items, g) S2 =>
      forLoop g S2 (fun x env1 S3 => match bindT t x env1 with
        | none => .bad
        | some env2 => execs F b env2 S3) items env S2
  | .ret e, env, S => Res.out env (ev F e env S) fun d S1 => .rt d S1
  | .exp e, env, S => Res.out env (ev F e env S) fun _ S1 => .nx env S1
  | .pass, env, S => .nx env S
  | .brk, env, S => .bk env S
  | .cont, env, S => .ct env S
  | .try0 b, env, S => (execs F b env S).noexc
  | .tryC b yes no h, env, S => match execs F b env S with
    | .exc c d env' S' => if yes.contains c then execH F h env' S' else if no.contains c then .exc c d env' S' else .bad
    | o => o
  | .tryA b yes no i l, env, S => match execs F b env S with
    | .exc c d env' S' => if yes.contains c then (match hrun c d l (env'.set i none) with
        | some (.rt z) => .rt z S'
        | some (.nx env2) => .nx (env2.set i none) S'
        | none => .bad) else if no.contains c then .exc c d env' S' else .bad
    | o => o
  | .raise c e, env, S => Res.out env (ev F e env S) fun d S1 => .exc c d env S1
  | .never, _, _ => .bad
def execs (F : FS) : List Sm → Env → Store → Out
  | [], env, S => .nx env S
  | a :: r, env, S => (exec F a env S).seq fun env' S' => execs F r env' S'
end

/-! ### defs -/
mutual
/-- no place from n on is named -/
def below (n : Nat) : D → Bool
  | .list xs => belowL n xs
  | .tuple xs => belowL n xs
  | .dict [(.int k, .none)] => decide (k.toNat < n)
  | .dict [(.none, .list xs)] => (intsOf xs).isSome
  | .dict _ => false
  | _ => true
def belowL (n : Nat) : List D → Bool
  | [] => true
  | x :: r => below n x && belowL n r
end
def belowO (n : Nat) : MO → Bool
  | .lst xs => belowL n xs
  | .dct kvs => kvs.all fun p => below n p.1 && below n p.2
  | .ins _ fs => belowL n (fs.map (·.2))
  | .dki kvs => belowL n (kvs.map (·.2))
def beqO : MO → MO → Bool
  | .lst a, .lst b => beqL a b
  | .dct a, .dct b => beqK a b
  | _, _ => false
/-- the places that were there ahead, if nothing newer is named in them -/
def keepable : Store → Store → Nat → Bool
  | [], _, _ => true
  | _ :: _, [], _ => false
  | a :: r, b :: s, n => (beqO a b || belowO n b) && keepable r s n
/-- at a def's end: what nobody can reach any more is dropped; a list that is handed out is never changed again, if the def says so -/
def handOut (fz : Bool) (n : Nat) (S : Store) (d : D) : D := match fz, locOf d with
  | true, some k => if n ≤ k then (match atL S k with
    | some xs => .list xs
    | none => d) else d
  | _, _ => d
def gc (fz : Bool) (S0 : Store) : Out → Res D
  | .rt d S => if below S0.length (handOut fz S0.length S d) && keepable S0 S S0.length then .ok (handOut fz S0.length S d) (S.take S0.length) else .ok d S
  | .nx _ S => if keepable S0 S S0.length then .ok .none (S.take S0.length) else .ok .none S
  | .exc c d _ S => if below S0.length d && keepable S0 S S0.length then .exc c d (S.take S0.length) else .exc c d S
  | _ => .bad
structure Fn where
  slots : Nat
  pars : Nat
  body : List Sm
  fz : Bool := true
def run (tab : Nat → Option Fn) : Nat → FS
  | 0, _, _, _ => .bad
  | n + 1, f, vs, S => match tab f with
    | none => .bad
    | some fn => if vs.length = fn.pars then gc fn.fz S (execs (run tab n) fn.body (vs.map some ++ List.replicate (fn.slots - fn.pars) none) S) else .bad
end DL

set_option linter.all false
/-! DL.Rel: how data stand in the abstract heap. -/
namespace DL
open PySem L2
/-- the kit's own part of the heap, and the world -/
structure KW where
  K : PySem.W.Frag
  w : World
instance : Coe KW PySem.W.Frag := ⟨KW.K⟩
@[reducible] def _root_.L2.Cx.kw (X : L2.Cx) : KW := ⟨X.K, X.w⟩
/-- what of the program is known by number: the classes of exceptions and the name of their field -/
structure Tb where
  ca : Nat → Addr
  cf : Nat → Str

/-- where the places of the store lie, and what else nobody may name (a list that a comprehension is making) -/
structure Mu where
  pl : List Addr
  rv : List Addr
/-- neither -/
def Free (μ : Mu) (a : Addr) : Prop := a ∉ μ.pl ∧ a ∉ μ.rv
/-- a list that nobody may change: the script, or one of the kit's -/
def SqR (K : KW) (μ : Mu) (H : Hp) (a : Addr) (xs : List V) : Prop :=
  (∃ o, H a = some (.frz o (.lst xs))) ∨ (Free μ a ∧ H a = some (.lst xs)) ∨
    ∃ (o : Obj) (its : Array Value) (n : Nat), K.K.lookup a = some o ∧ o.cls = .type "list" ∧ o.dict = none ∧ o.data = .seq its n ∧ its.size ≤ sizeLine ∧ Vals xs its.toList
theorem SqR.sql {K : KW} {μ : Mu} {H : Hp} {a : Addr} {xs : List V} (h : SqR K μ H a xs) : SqL K H a xs := by
  rcases h with ⟨o, h⟩ | ⟨_, h⟩ | h
  · exact .inl (.inr ⟨o, h⟩)
  · exact .inl (.inl h)
  · exact .inr h
mutual
/-- v stands for d: μ tells where the places of the store lie -/
inductive Rep (K : KW) (μ : Mu) (H : Hp) : V → D → Prop
  | non : Rep K μ H .non .none
  | bl (b : Bool) : Rep K μ H (.bl b) (.bool b)
  | int (i : Int) : Rep K μ H (.int i) (.int i)
  | str (x : Str) : Rep K μ H (.str x) (.str x)
  | lst {a : Addr} {xs : List V} {ds : List D} : Free μ a → H a = some (.lst xs) → RepL K μ H xs ds → Rep K μ H (.ref a) (.list ds)
  | ro {a : Addr} {ns : List Int} : SqR K μ H a (ns.map V.int) → Rep K μ H (.ref a) (ro ns)
  | tup {a : Addr} {xs : List V} {ds : List D} : SqT K H a xs → RepL K μ H xs ds → Rep K μ H (.ref a) (.tuple ds)
  | rf {a : Addr} {n : Nat} : μ.pl[n]? = some a → Rep K μ H (.ref a) (rf n)
inductive RepL (K : KW) (μ : Mu) (H : Hp) : List V → List D → Prop
  | nil : RepL K μ H [] []
  | cons {v : V} {vs : List V} {d : D} {ds : List D} : Rep K μ H v d → RepL K μ H vs ds → RepL K μ H (v :: vs) (d :: ds)
end
section
variable {K : KW} {μ μ' : Mu} {H H' : Hp}
/-- what must stay that data stay -/
structure Keeps (μ μ' : Mu) (H H' : Hp) : Prop where
  tup : ∀ b xs, Rd H b (.tup xs) → Rd H' b (.tup xs)
  lst : ∀ b xs, Free μ b → H b = some (.lst xs) → Free μ' b ∧ H' b = some (.lst xs)
  frz : ∀ b o u, H b = some (.frz o u) → H' b = some (.frz o u)
  at_ : ∀ (n : Nat) a, μ.pl[n]? = some a → μ'.pl[n]? = some a
  own : ∀ b x, H b = some (.own x) → H' b = some (.own x)
mutual
theorem Rep.keep (k : Keeps μ μ' H H') : ∀ (d : D) (v : V), Rep K μ H v d → Rep K μ' H' v d
  | .none, _, h => by cases h; exact .non
  | .bool _, _, h => by cases h; exact .bl _
  | .int _, _, h => by cases h; exact .int _
  | .str _, _, h => by cases h; exact .str _
  | .list ds, _, h => by
    cases h with
    | lst h1 h2 h3 =>
      obtain ⟨k1, k2⟩ := k.lst _ _ h1 h2
      exact .lst k1 k2 (RepL.keep k ds _ h3)
  | .tuple ds, _, h => by
    cases h with
    | tup h1 h2 =>
      refine .tup ?_ (RepL.keep k ds _ h2)
      rcases h1 with h1 | h1
      · exact .inl (k.tup _ _ h1)
      · exact .inr h1
  | .dict kvs, _, h => by
    cases h with
    | rf h1 => exact .rf (k.at_ _ _ h1)
    | ro h1 => exact .ro (by rcases h1 with ⟨o, h1⟩ | ⟨h0, h1⟩ | h1; exact .inl ⟨o, k.frz _ _ _ h1⟩; exact .inr (.inl (k.lst _ _ h0 h1)); exact .inr (.inr h1))
theorem RepL.keep (k : Keeps μ μ' H H') : ∀ (ds : List D) (vs : List V), RepL K μ H vs ds → RepL K μ' H' vs ds
  | [], _, h => by cases h; exact .nil
  | d :: ds, _, h => by
    cases h with
    | cons h1 h2 => exact .cons (Rep.keep k d _ h1) (RepL.keep k ds _ h2)
end
/-- data stay -/
structure Mono (K : KW) (μ : Mu) (H : Hp) (μ' : Mu) (H' : Hp) : Prop where
  pre : ∃ ν, μ'.pl = μ.pl ++ ν
  mono : ∀ v d, Rep K μ H v d → Rep K μ' H' v d
/-- the heap goes on: places and data stay, and what nobody may name -/
structure Ext (K : KW) (μ : Mu) (H : Hp) (μ' : Mu) (H' : Hp) : Prop extends Mono K μ H μ' H' where
  rv : μ'.rv = μ.rv
  same : ∀ a ∈ μ.rv, H' a = H a
theorem Mono.refl : Mono K μ H μ H := ⟨⟨[], by simp⟩, fun _ _ h => h⟩
theorem Mono.trans {μ'' : Mu} {H'' : Hp} (a : Mono K μ H μ' H') (b : Mono K μ' H' μ'' H'') : Mono K μ H μ'' H'' := by
  obtain ⟨⟨ν, e⟩, m⟩ := a
  obtain ⟨⟨ν', e'⟩, m'⟩ := b
  exact ⟨⟨ν ++ ν', by rw [e', e, List.append_assoc]⟩, fun v d h => m' v d (m v d h)⟩
theorem Ext.refl : Ext K μ H μ H := ⟨.refl, rfl, fun _ _ => rfl⟩
theorem Ext.trans {μ'' : Mu} {H'' : Hp} (a : Ext K μ H μ' H') (b : Ext K μ' H' μ'' H'') : Ext K μ H μ'' H'' :=
  ⟨a.toMono.trans b.toMono, b.rv.trans a.rv, fun x hx => (b.same x (by rw [a.rv]; exact hx)).trans (a.same x hx)⟩
theorem Mono.monoL (e : Mono K μ H μ' H') : ∀ {vs : List V} {ds : List D}, RepL K μ H vs ds → RepL K μ' H' vs ds
  | [], _, h => by cases h; exact .nil
  | v :: vs, _, h => by
    cases h with
    | cons h1 h2 => exact .cons (e.mono _ _ h1) (e.monoL h2)
theorem RepL.ints : ∀ {ns : List Int}, RepL K μ H (ns.map V.int) (ns.map .int)
  | [] => .nil
  | i :: ns => .cons (.int i) RepL.ints
theorem RepL.length : ∀ {vs : List V} {ds : List D}, RepL K μ H vs ds → vs.length = ds.length
  | [], _, h => by cases h; rfl
  | v :: vs, _, h => by
    cases h with
    | cons h1 h2 => simp [RepL.length h2]
theorem RepL.get {i : Nat} : ∀ {vs : List V} {ds : List D} {d : D}, RepL K μ H vs ds → ds[i]? = some d → ∃ v, vs[i]? = some v ∧ Rep K μ H v d := by
  induction i with
  | zero =>
    intro vs ds d h e
    cases h with
    | nil => simp at e
    | cons h1 h2 => simp at e; subst e; exact ⟨_, rfl, h1⟩
  | succ i ih =>
    intro vs ds d h e
    cases h with
    | nil => simp at e
    | cons h1 h2 =>
      obtain ⟨v, e1, r⟩ := ih h2 (by simpa using e)
      exact ⟨v, by simpa using e1, r⟩
theorem RepL.getV {i : Nat} : ∀ {vs : List V} {ds : List D} {v : V}, RepL K μ H vs ds → vs[i]? = some v → ∃ d, ds[i]? = some d ∧ Rep K μ H v d := by
  induction i with
  | zero =>
    intro vs ds d h e
    cases h with
    | nil => simp at e
    | cons h1 h2 => simp at e; subst e; exact ⟨_, rfl, h1⟩
  | succ i ih =>
    intro vs ds d h e
    cases h with
    | nil => simp at e
    | cons h1 h2 =>
      obtain ⟨v, e1, r⟩ := ih h2 (by simpa using e)
      exact ⟨v, by simpa using e1, r⟩
theorem RepL.append : ∀ {vs ws : List V} {ds es : List D}, RepL K μ H vs ds → RepL K μ H ws es → RepL K μ H (vs ++ ws) (ds ++ es)
  | [], _, _, _, h, g => by cases h; exact g
  | v :: vs, _, _, _, h, g => by
    cases h with
    | cons h1 h2 => exact .cons h1 (RepL.append h2 g)
theorem RepL.take : ∀ (n : Nat) {vs : List V} {ds : List D}, RepL K μ H vs ds → RepL K μ H (vs.take n) (ds.take n)
  | 0, _, _, _ => by simp; exact .nil
  | n + 1, [], _, h => by cases h; simp; exact .nil
  | n + 1, v :: vs, _, h => by
    cases h with
    | cons h1 h2 => exact .cons h1 (RepL.take n h2)
theorem RepL.drop : ∀ (n : Nat) {vs : List V} {ds : List D}, RepL K μ H vs ds → RepL K μ H (vs.drop n) (ds.drop n)
  | 0, _, _, h => by simpa using h
  | n + 1, [], _, h => by cases h; simp; exact .nil
  | n + 1, v :: vs, _, h => by
    cases h with
    | cons h1 h2 => simpa using RepL.drop n h2
theorem RepL.set {x : V} {d : D} (r : Rep K μ H x d) : ∀ {vs : List V} {ds : List D} (n : Nat), RepL K μ H vs ds → RepL K μ H (vs.set n x) (ds.set n d)
  | [], _, _, h => by cases h; exact .nil
  | v :: vs, _, 0, h => by
    cases h with
    | cons h1 h2 => exact .cons r h2
  | v :: vs, _, n + 1, h => by
    cases h with
    | cons h1 h2 => exact .cons h1 (RepL.set r n h2)
theorem RepL.eraseIdx : ∀ {vs : List V} {ds : List D} (n : Nat), RepL K μ H vs ds → RepL K μ H (vs.eraseIdx n) (ds.eraseIdx n)
  | [], _, _, h => by cases h; simp; exact .nil
  | v :: vs, _, 0, h => by
    cases h with
    | cons h1 h2 => exact h2
  | v :: vs, _, n + 1, h => by
    cases h with
    | cons h1 h2 => exact .cons h1 (RepL.eraseIdx n h2)
theorem RepL.dropLast : ∀ {vs : List V} {ds : List D}, RepL K μ H vs ds → RepL K μ H vs.dropLast ds.dropLast
  | [], _, h => by cases h; simp; exact .nil
  | [v], _, h => by
    cases h with
    | cons h1 h2 => cases h2; exact .nil
  | v :: w :: vs, _, h => by
    cases h with
    | cons h1 h2 =>
      have := RepL.dropLast h2
      cases h2 with
      | cons h3 h4 => exact .cons h1 this

theorem map_int_inj : ∀ {ns ms : List Int}, ns.map PyData.int = ms.map PyData.int → ns = ms
  | [], [], _ => rfl
  | [], _ :: _, h => by simp at h
  | _ :: _, [], h => by simp at h
  | i :: ns, j :: ms, h => by
    simp only [List.map_cons, List.cons.injEq, PyData.int.injEq] at h
    rw [h.1, map_int_inj h.2]
theorem ro_inv {x : V} {d : D} {ns : List Int} (r : Rep K μ H x d) (e : d = ro ns) : ∃ a, x = .ref a ∧ SqR K μ H a (ns.map V.int) := by
  cases r with
  | ro h =>
    have e' : PyData.dict [(.none, .list ((‹List Int› : List Int).map .int))] = PyData.dict [(.none, .list (ns.map .int))] := e
    simp only [PyData.dict.injEq, List.cons.injEq, Prod.mk.injEq, PyData.list.injEq, true_and, and_true] at e'
    rw [map_int_inj e'] at h
    exact ⟨_, rfl, h⟩
  | rf h =>
    have e' : PyData.dict [(.int _, .none)] = PyData.dict [(.none, .list (ns.map .int))] := e
    simp at e'
  | _ => cases e
/-! ### dicts with rows as keys -/
mutual
/-- a key as the kit sees it -/
def toKey : D → Option NestedKey
  | .none => some .none
  | .int i => some (.num i)
  | .str x => some (.text x)
  | .tuple xs => (toKeyL xs).map .tup
  | _ => none
def toKeyL : List D → Option (List NestedKey)
  | [] => some []
  | x :: r => match toKey x, toKeyL r with
    | some k, some ks => some (k :: ks)
    | _, _ => none
end
/-- what a dict with rows as keys is, by its own object alone: keys, their objects, values -/
def dPhi (w : World) (a : Addr) (xs : List (NestedKey × Addr × Value)) : Heap → Prop := fun h =>
  xs.length ≤ sizeLine ∧ (a == sysModules) = false ∧ ∃ o es ep, h.get? a = some o ∧ o.ExactDict ∧ o.data = .dict es ep ∧ es.toList = xs.map (fun x => ⟨x.1.hash w, .ref x.2.1, x.2.2⟩) ∧ (xs.map (·.1)).Nodup
inductive DRel (K : KW) (μ : Mu) (H : Hp) : List (D × D) → List (NestedKey × Addr × Value) → Prop
  | nil : DRel K μ H [] []
  | cons {k v : D} {kvs : List (D × D)} {nk : NestedKey} {a : Addr} {u : Value} {vv : V} {xs : List (NestedKey × Addr × Value)} :
      toKey k = some nk → keyDep k ≤ 8 → Rep K μ H (.ref a) k → RelV vv u → Rep K μ H vv v → DRel K μ H kvs xs → DRel K μ H ((k, v) :: kvs) ((nk, a, u) :: xs)
theorem DRel.keep (k : Keeps μ μ' H H') : ∀ {kvs : List (D × D)} {xs : List (NestedKey × Addr × Value)}, DRel K μ H kvs xs → DRel K μ' H' kvs xs
  | _, _, .nil => .nil
  | _, _, .cons h1 h2 h3 h4 h5 h6 => .cons h1 h2 (Rep.keep k _ _ h3) h4 (Rep.keep k _ _ h5) (DRel.keep k h6)
theorem DRel.mono (k : Mono K μ H μ' H') : ∀ {kvs : List (D × D)} {xs : List (NestedKey × Addr × Value)}, DRel K μ H kvs xs → DRel K μ' H' kvs xs
  | _, _, .nil => .nil
  | _, _, .cons h1 h2 h3 h4 h5 h6 => .cons h1 h2 (k.mono _ _ h3) h4 (k.mono _ _ h5) (DRel.mono k h6)
theorem DRel.len : ∀ {kvs : List (D × D)} {xs : List (NestedKey × Addr × Value)}, DRel K μ H kvs xs → kvs.length = xs.length
  | _, _, .nil => rfl
  | _, _, .cons _ _ _ _ _ h6 => by simp [DRel.len h6]
theorem DRel.keys : ∀ {kvs : List (D × D)} {xs : List (NestedKey × Addr × Value)}, DRel K μ H kvs xs → RepL K μ H (xs.map fun x => V.ref x.2.1) (kvs.map (·.1))
  | _, _, .nil => .nil
  | _, _, .cons _ _ h3 _ _ h6 => .cons h3 (DRel.keys h6)
/-- what stands at a place is a list, a dict, an instance -/
inductive Mt : HO → Prop
  | lst (xs) : Mt (.lst xs)
  | ext (w a xs) : Mt (.ext (dPhi w a xs))
  | ins (C dx fs) : Mt (.ins C dx fs)
  | dK (xs) : Mt (.dK xs)
theorem code_ne {w : World} {a c : Addr} {xs : List (NestedKey × Addr × Value)} {q : Str} : LamX.CodeO c q ≠ .ext (dPhi w a xs) := by
  intro z
  have z1 := HO.ext.inj z
  have z2 := congrFun z1 { objs := Array.replicate (c + 1) ({ cls := .none, data := .fields #[.none, .str q 0] } : Obj) }
  have h1 : ∀ b, ∀ o, (({ objs := Array.replicate (c + 1) ({ cls := .none, data := .fields #[.none, .str q 0] } : Obj) } : Heap)).get? b = some o → o = { cls := .none, data := .fields #[.none, .str q 0] } := by
    intro b o h
    unfold Heap.get? at h
    by_cases hb : b < c + 1
    · simp [hb] at h
      exact h.symm
    · simp [hb] at h
  have h2 : dPhi w a xs { objs := Array.replicate (c + 1) ({ cls := .none, data := .fields #[.none, .str q 0] } : Obj) } := by
    rw [← z2]
    refine ⟨{ cls := .none, data := .fields #[.none, .str q 0] }, #[.none, .str q 0], 0, ?_, rfl, rfl⟩
    unfold Heap.get?
    simp
  obtain ⟨_, _, o, es, ep, g, _, dd, _⟩ := h2
  have := h1 _ _ g
  subst this
  cases dd
/-- the tables of code objects of the program's functions, with the name that a lambda has there -/
def tabOf (K : PySem.W.Frag) (o : Obj) : Option (Addr × Addr × Str) := match o.data with
  | .func fd => (match fd.code with
    | .ref c => (match K.lookup c with
      | some ⟨_, _, .fields vs, _⟩ => (match vs.toList[11]? with
        | some (Value.ref P) => some (c, P, fd.qualname ++ (".<locals>." : Str) ++ ("<lambda>" : Str))
        | _ => none)
      | _ => none)
    | _ => none)
  | _ => none
def tabsC (K : PySem.W.Frag) : List (Addr × Addr × Str) := K.filterMap fun p => tabOf K p.2
def tabsOf (K : PySem.W.Frag) : List (Addr × Str) := (tabsC K).map (·.2)
theorem Mt.tup {o : HO} {zs : List V} (m : Mt o) : HO.tup zs ≠ o := by
  cases m <;> (intro z; cases z)
theorem Mt.frz {o u : HO} {ob : Obj} (m : Mt o) : HO.frz ob u ≠ o := by
  cases m <;> (intro z; cases z)
theorem Mt.own {o : HO} {x : Addr} (m : Mt o) : HO.own x ≠ o := by
  cases m <;> (intro z; cases z)
theorem Mt.tbl {o : HO} {x : Array Value} (m : Mt o) : HO.tbl x ≠ o := by
  cases m <;> (intro z; cases z)
theorem Mt.code {o : HO} {c : Addr} {q : Str} (m : Mt o) : LamX.CodeO c q ≠ o := by
  cases m with
  | ext w a xs => exact code_ne
  | _ => intro z; cases z
theorem tabs_set {T : List (Addr × Str)} {a : Addr} {o o' : HO} (t : LamX.Tabs T H) (ha : H a = some o) (m : Mt o) : LamX.Tabs T (upd H a o') := fun p hp => by
  obtain ⟨ps, h1, h2, h3⟩ := t p hp
  refine ⟨ps, by rw [upd_ne (ne_of h1 ha m.tbl)]; exact h1, h2, fun pos cv hc => ?_⟩
  obtain ⟨c, e1, e2⟩ := h3 pos cv hc
  exact ⟨c, e1, by rw [upd_ne (ne_of e2 ha m.code)]; exact e2⟩
theorem tabs_new {T : List (Addr × Str)} {a : Addr} {o' : HO} (t : LamX.Tabs T H) (ha : H a = none) : LamX.Tabs T (upd H a o') :=
  t.ext fun b o e => by rw [upd_ne (ne_of_none e ha)]; exact e
/-- what stands at a place -/
def MOk (K : KW) (μ : Mu) (H : Hp) (a : Addr) : MO → Prop
  | .lst ds => ∃ xs, H a = some (.lst xs) ∧ RepL K μ H xs ds
  | .dct kvs => ∃ xs, H a = some (.ext (dPhi K.w a xs)) ∧ DRel K μ H kvs xs
  | .ins c fs => ∃ dx vs, H a = some (.ins (He.ga K.K c) dx vs) ∧ H dx = some (.own a) ∧ vs.map (·.1) = fs.map (·.1) ∧ RepL K μ H (vs.map (·.2)) (fs.map (·.2))
  | .dki kvs => ∃ xs : List (L2.Key × V), H a = some (.dK xs) ∧ xs.map (·.1) = kvs.map (·.1) ∧ RepL K μ H (xs.map (·.2)) (kvs.map (·.2))
/-- the store stands in the heap -/
structure RelS (K : KW) (μ : Mu) (S : Store) (H : Hp) : Prop where
  len : μ.pl.length = S.length
  nd : μ.pl.Nodup
  at_ : ∀ (n : Nat) o, S[n]? = some o → ∃ a, μ.pl[n]? = some a ∧ MOk K μ H a o
  rv : ∀ a ∈ μ.rv, a ∉ μ.pl ∧ ∃ xs, H a = some (.lst xs)
  tab : LamX.Tabs (tabsOf K.K) H
/-- the slots -/
structure RelE (K : KW) (μ : Mu) (H : Hp) (env : Env) (σ : L2.St) : Prop where
  len : env.length = σ.length
  at_ : ∀ (i : Nat) d, env[i]? = some (some d) → ∃ v, σ[i]? = some (some v) ∧ Rep K μ H v d
theorem RelE.monoW {env : Env} {σ : L2.St} (r : RelE K μ H env σ) (e : Mono K μ H μ' H') : RelE K μ' H' env σ :=
  ⟨r.len, fun i d h => let ⟨v, h1, h2⟩ := r.at_ i d h; ⟨v, h1, e.mono _ _ h2⟩⟩
theorem RelE.mono {env : Env} {σ : L2.St} (r : RelE K μ H env σ) (e : Ext K μ H μ' H') : RelE K μ' H' env σ := r.monoW e.toMono
theorem RelE.set {env : Env} {σ : L2.St} {d : D} {v : V} (r : RelE K μ H env σ) (i : Nat) (h : Rep K μ H v d) : RelE K μ H (env.set i (some d)) (σ.set i (some v)) := by
  refine ⟨by simp [r.len], fun j d' e => ?_⟩
  by_cases hj : i = j
  · subst hj
    by_cases hi : i < env.length
    · rw [List.getElem?_set_self hi] at e
      cases e
      exact ⟨v, by rw [List.getElem?_set_self (by rw [← r.len]; exact hi)], h⟩
    · rw [List.getElem?_eq_none (by simpa using hi)] at e
      cases e
  · rw [List.getElem?_set_ne hj] at e
    obtain ⟨w, h1, h2⟩ := r.at_ j d' e
    exact ⟨w, by rw [List.getElem?_set_ne hj]; exact h1, h2⟩
theorem RelE.wipe {env : Env} {σ : L2.St} (r : RelE K μ H env σ) : ∀ vs : List Nat, RelE K μ H (wipeE env vs) (L2.wipe σ vs)
  | [] => r
  | v :: vs => by
    have ih := RelE.wipe r vs
    show RelE K μ H ((wipeE env vs).set v none) ((L2.wipe σ vs).set v none)
    refine ⟨by simp [ih.len], fun j d' e => ?_⟩
    by_cases hj : v = j
    · subst hj
      by_cases hi : v < (wipeE env vs).length
      · rw [List.getElem?_set_self hi] at e; cases e
      · rw [List.getElem?_eq_none (by simpa using hi)] at e; cases e
    · rw [List.getElem?_set_ne hj] at e
      obtain ⟨w, h1, h2⟩ := ih.at_ j d' e
      exact ⟨w, by rw [List.getElem?_set_ne hj]; exact h1, h2⟩

theorem Rd.new {p a : Addr} {o u : HO} (hp : H p = none) (h : Rd H a u) : Rd (upd H p o) a u := by
  have hne : a ≠ p := by
    rintro rfl
    rcases h with h | ⟨_, h⟩ <;> (rw [hp] at h; cases h)
  rcases h with h | ⟨ob, h⟩
  · exact .inl (by rw [upd_ne hne]; exact h)
  · exact .inr ⟨ob, by rw [upd_ne hne]; exact h⟩
theorem Keeps.new {p : Addr} {o : HO} (hp : H p = none) : Keeps μ μ H (upd H p o) :=
  ⟨fun b xs h => Rd.new hp h, fun b xs hb h => ⟨hb, by rw [upd_ne (ne_of_none h hp)]; exact h⟩, fun b o u h => by rw [upd_ne (ne_of_none h hp)]; exact h, fun n a h => h, fun b x h => by rw [upd_ne (ne_of_none h hp)]; exact h⟩
theorem MOk.keep {a : Addr} (k : Keeps μ μ' H H') (ha : ∀ o, Mt o → H a = some o → H' a = some o) : ∀ {o : MO}, MOk K μ H a o → MOk K μ' H' a o
  | .lst ds, ⟨xs, h1, h2⟩ => ⟨xs, ha _ (.lst _) h1, RepL.keep k _ _ h2⟩
  | .dct kvs, ⟨xs, h1, h2⟩ => ⟨xs, ha _ (.ext _ _ _) h1, h2.keep k⟩
  | .ins c fs, ⟨dx, vs, h1, h2, h3, h4⟩ => ⟨dx, vs, ha _ (.ins _ _ _) h1, k.own _ _ h2, h3, RepL.keep k _ _ h4⟩
  | .dki kvs, ⟨xs, h1, h2, h3⟩ => ⟨xs, ha _ (.dK _) h1, h2, RepL.keep k _ _ h3⟩
/-- a new thing that is no place -/
theorem RelS.new {S : Store} {p : Addr} {o : HO} (r : RelS K μ S H) (hp : H p = none) : RelS K μ S (upd H p o) ∧ Ext K μ H μ (upd H p o) := by
  have hr : ∀ a ∈ μ.rv, upd H p o a = H a := fun a ha => by
    obtain ⟨_, u, e⟩ := r.rv a ha
    rw [upd_ne (ne_of_none e hp)]
  refine ⟨⟨r.len, r.nd, fun n m e => ?_, fun a ha => ?_, tabs_new r.tab hp⟩, ⟨⟨⟨[], by simp⟩, fun v d h => Rep.keep (Keeps.new hp) d v h⟩, rfl, hr⟩⟩
  · obtain ⟨a, h1, h2⟩ := r.at_ n m e
    exact ⟨a, h1, h2.keep (Keeps.new hp) fun _ _ q => by rw [upd_ne (ne_of_none q hp)]; exact q⟩
  · obtain ⟨h1, u, e⟩ := r.rv a ha
    exact ⟨h1, u, by rw [hr a ha]; exact e⟩
theorem RelS.lst_at {S : Store} (r : RelS K μ S H) {n : Nat} {ds : List D} (e : atL S n = some ds) : ∃ a xs, μ.pl[n]? = some a ∧ H a = some (.lst xs) ∧ RepL K μ H xs ds := by
  unfold atL at e
  split at e
  · rename_i xs h
    cases e
    obtain ⟨a, h1, xs', h2, h3⟩ := r.at_ n _ h
    exact ⟨a, xs', h1, h2, h3⟩
  · cases e
theorem mem_of_get {a : Addr} {n : Nat} (h : μ.pl[n]? = some a) : a ∈ μ.pl := List.mem_of_getElem? h
theorem nodup_at {a : Addr} {n m : Nat} (nd : μ.pl.Nodup) (h1 : μ.pl[n]? = some a) (h2 : μ.pl[m]? = some a) : n = m := by
  obtain ⟨l1, e1⟩ := List.getElem?_eq_some_iff.mp h1
  obtain ⟨l2, e2⟩ := List.getElem?_eq_some_iff.mp h2
  exact (List.getElem_inj nd).mp (e1.trans e2.symm)
theorem RelS.at_of_mem {S : Store} (r : RelS K μ S H) {a : Addr} (h : a ∈ μ.pl) : ∃ o, H a = some o ∧ Mt o := by
  obtain ⟨n, hn, e⟩ := List.getElem_of_mem h
  have hs : n < S.length := by rw [← r.len]; exact hn
  obtain ⟨b, h1, h2⟩ := r.at_ n S[n] (by simp [hs])
  rw [List.getElem?_eq_getElem hn] at h1
  cases h1
  rw [← e]
  cases q : S[n] with
  | lst ds => rw [q] at h2; obtain ⟨xs, h3, _⟩ := h2; exact ⟨_, h3, .lst _⟩
  | dct _ => rw [q] at h2; obtain ⟨xs, h3, _⟩ := h2; exact ⟨_, h3, .ext _ _ _⟩
  | ins _ _ => rw [q] at h2; obtain ⟨dx, vs, h3, _⟩ := h2; exact ⟨_, h3, .ins _ _ _⟩
  | dki _ => rw [q] at h2; obtain ⟨xs, h3, _⟩ := h2; exact ⟨_, h3, .dK _⟩
theorem RelS.free {S : Store} {p : Addr} (r : RelS K μ S H) (hp : H p = none) : Free μ p := by
  refine ⟨fun hm => ?_, fun hm => ?_⟩
  · obtain ⟨xs, e, _⟩ := r.at_of_mem hm
    rw [hp] at e; cases e
  · obtain ⟨_, o, e⟩ := r.rv p hm
    rw [hp] at e; cases e
/-- a new place, whatever stands there -/
theorem RelS.placeO {S : Store} {p : Addr} {o' : HO} {mo : MO} (r : RelS K μ S H) (hp : H p = none) (h : ∀ μ', Keeps μ μ' H (upd H p o') → MOk K μ' (upd H p o') p mo) :
    RelS K ⟨μ.pl ++ [p], μ.rv⟩ (S ++ [mo]) (upd H p o') ∧ Ext K μ H ⟨μ.pl ++ [p], μ.rv⟩ (upd H p o') ∧ Rep K ⟨μ.pl ++ [p], μ.rv⟩ (upd H p o') (.ref p) (rf S.length) := by
  have hpm := (r.free hp).1
  have k : Keeps μ ⟨μ.pl ++ [p], μ.rv⟩ H (upd H p o') := by
    refine ⟨fun b xs h => Rd.new hp h, fun b xs hb h => ⟨⟨?_, hb.2⟩, by rw [upd_ne (ne_of_none h hp)]; exact h⟩, fun b o u h => by rw [upd_ne (ne_of_none h hp)]; exact h, fun n a h => ?_, fun b x h => by rw [upd_ne (ne_of_none h hp)]; exact h⟩
    · have : b ≠ p := ne_of_none h hp
      simp [hb.1, this]
    · obtain ⟨l, _⟩ := List.getElem?_eq_some_iff.mp h
      show (μ.pl ++ [p])[n]? = some a
      rw [List.getElem?_append_left l]; exact h
  have hr : ∀ a ∈ μ.rv, upd H p o' a = H a := fun a ha => by
    obtain ⟨_, u, e⟩ := r.rv a ha
    rw [upd_ne (ne_of_none e hp)]
  refine ⟨⟨by simp [r.len], ?_, fun n m e => ?_, fun a ha => ?_, tabs_new r.tab hp⟩, ⟨⟨⟨[p], rfl⟩, fun v d h => Rep.keep k d v h⟩, rfl, hr⟩, .rf (by rw [← r.len]; simp)⟩
  · show (μ.pl ++ [p]).Nodup
    rw [List.nodup_append]
    refine ⟨r.nd, by simp, fun a ha b hb => ?_⟩
    simp at hb
    subst hb
    rintro rfl
    exact hpm ha
  · by_cases hn : n < S.length
    · rw [List.getElem?_append_left hn] at e
      obtain ⟨a, h1, h2⟩ := r.at_ n m e
      exact ⟨a, k.at_ _ _ h1, h2.keep k fun _ _ q => by rw [upd_ne (ne_of_none q hp)]; exact q⟩
    · rw [List.getElem?_append_right (by omega)] at e
      have : n - S.length = 0 := by
        cases hk : n - S.length with
        | zero => rfl
        | succ j => rw [hk] at e; simp at e
      rw [this] at e
      simp at e
      subst e
      have hn' : n = μ.pl.length := by rw [r.len]; omega
      refine ⟨p, by rw [hn']; simp, h _ k⟩
  · obtain ⟨h1, u, e⟩ := r.rv a ha
    refine ⟨?_, u, by rw [hr a ha]; exact e⟩
    have : a ≠ p := ne_of_none e hp
    simp [h1, this]
/-- a new place -/
theorem RelS.place {S : Store} {p : Addr} {xs : List V} {ds : List D} (r : RelS K μ S H) (hp : H p = none) (h : RepL K μ H xs ds) :
    RelS K ⟨μ.pl ++ [p], μ.rv⟩ (S ++ [.lst ds]) (upd H p (.lst xs)) ∧ Ext K μ H ⟨μ.pl ++ [p], μ.rv⟩ (upd H p (.lst xs)) ∧ Rep K ⟨μ.pl ++ [p], μ.rv⟩ (upd H p (.lst xs)) (.ref p) (rf S.length) :=
  r.placeO hp fun μ' k => ⟨xs, upd_same, RepL.keep k _ _ h⟩
/-- a new dict -/
theorem RelS.placeK {S : Store} {p : Addr} (r : RelS K μ S H) (hp : H p = none) :
    RelS K ⟨μ.pl ++ [p], μ.rv⟩ (S ++ [.dct []]) (upd H p (.ext (dPhi K.w p []))) ∧ Ext K μ H ⟨μ.pl ++ [p], μ.rv⟩ (upd H p (.ext (dPhi K.w p []))) ∧ Rep K ⟨μ.pl ++ [p], μ.rv⟩ (upd H p (.ext (dPhi K.w p []))) (.ref p) (rf S.length) :=
  r.placeO hp fun μ' k => ⟨[], upd_same, .nil⟩
theorem Keeps.at {a : Addr} {o o' : HO} (ha : a ∈ μ.pl) (hy : H a = some o) (m : Mt o) : Keeps μ μ H (upd H a o') := by
  refine ⟨fun b zs h => ?_, fun b zs hb h => ⟨hb, ?_⟩, fun b o u h => by rw [upd_ne (ne_of h hy m.frz)]; exact h, fun _ _ h => h, fun b x h => by rw [upd_ne (ne_of h hy m.own)]; exact h⟩
  · rcases h with h | ⟨ob, h⟩
    · exact .inl (by rw [upd_ne (ne_of h hy m.tup)]; exact h)
    · exact .inr ⟨ob, by rw [upd_ne (ne_of h hy m.frz)]; exact h⟩
  · have hne : b ≠ a := by rintro rfl; exact hb.1 ha
    rw [upd_ne hne]; exact h
/-- a place is changed, whatever stands there -/
theorem RelS.setO {S : Store} {n : Nat} {a : Addr} {o' : HO} {mo : MO} (r : RelS K μ S H) (ha : μ.pl[n]? = some a) (h : MOk K μ (upd H a o') a mo) :
    RelS K μ (S.set n mo) (upd H a o') ∧ Ext K μ H μ (upd H a o') := by
  obtain ⟨y, hy, mt⟩ := r.at_of_mem (mem_of_get ha)
  have k : Keeps μ μ H (upd H a o') := Keeps.at (mem_of_get ha) hy mt
  have hr : ∀ b ∈ μ.rv, upd H a o' b = H b := fun b hb => by
    obtain ⟨h1, _⟩ := r.rv b hb
    rw [upd_ne (by rintro rfl; exact h1 (mem_of_get ha))]
  refine ⟨⟨by simp [r.len], r.nd, fun m o e => ?_, fun b hb => ?_, tabs_set r.tab hy mt⟩, ⟨⟨⟨[], by simp⟩, fun v d h => Rep.keep k d v h⟩, rfl, hr⟩⟩
  · by_cases hm : n = m
    · subst hm
      by_cases hi : n < S.length
      · rw [List.getElem?_set_self hi] at e
        cases e
        exact ⟨a, ha, h⟩
      · rw [List.getElem?_eq_none (by simpa using hi)] at e; cases e
    · rw [List.getElem?_set_ne hm] at e
      obtain ⟨b, h1, h2⟩ := r.at_ m o e
      refine ⟨b, h1, h2.keep k fun o _ q => ?_⟩
      have : b ≠ a := by rintro rfl; exact hm (nodup_at r.nd ha h1)
      rw [upd_ne this]; exact q
  · obtain ⟨h1, u, e⟩ := r.rv b hb
    exact ⟨h1, u, by rw [hr b hb]; exact e⟩
/-- a place is changed -/
theorem RelS.set {S : Store} {n : Nat} {a : Addr} {xs : List V} {ds : List D} (r : RelS K μ S H) (ha : μ.pl[n]? = some a) (h : RepL K μ H xs ds) :
    RelS K μ (setL S n ds) (upd H a (.lst xs)) ∧ Ext K μ H μ (upd H a (.lst xs)) := by
  obtain ⟨y, hy, mt⟩ := r.at_of_mem (mem_of_get ha)
  exact r.setO ha ⟨xs, upd_same, RepL.keep (Keeps.at (mem_of_get ha) hy mt) _ _ h⟩
/-- .. a dict -/
theorem RelS.setK {S : Store} {n : Nat} {a : Addr} {kvs : List (D × D)} {xs : List (NestedKey × Addr × Value)} (r : RelS K μ S H) (ha : μ.pl[n]? = some a) (h : DRel K μ H kvs xs) :
    RelS K μ (setK S n kvs) (upd H a (.ext (dPhi K.w a xs))) ∧ Ext K μ H μ (upd H a (.ext (dPhi K.w a xs))) := by
  obtain ⟨y, hy, mt⟩ := r.at_of_mem (mem_of_get ha)
  exact r.setO ha ⟨xs, upd_same, h.keep (Keeps.at (mem_of_get ha) hy mt)⟩
theorem RelS.dct_at {S : Store} (r : RelS K μ S H) {n : Nat} {kvs : List (D × D)} (e : atK S n = some kvs) : ∃ a xs, μ.pl[n]? = some a ∧ H a = some (.ext (dPhi K.w a xs)) ∧ DRel K μ H kvs xs := by
  unfold atK at e
  split at e
  · rename_i xs h
    cases e
    obtain ⟨a, h1, xs', h2, h3⟩ := r.at_ n _ h
    exact ⟨a, xs', h1, h2, h3⟩
  · cases e
/-! ### a list that is being made: nobody can name it -/
theorem RelS.reserve {S : Store} {p : Addr} {xs : List V} (r : RelS K μ S H) (hp : H p = none) :
    RelS K ⟨μ.pl, p :: μ.rv⟩ S (upd H p (.lst xs)) ∧ Mono K μ H ⟨μ.pl, p :: μ.rv⟩ (upd H p (.lst xs)) := by
  have k : Keeps μ ⟨μ.pl, p :: μ.rv⟩ H (upd H p (.lst xs)) := by
    refine ⟨fun b xs h => Rd.new hp h, fun b xs hb h => ⟨⟨hb.1, ?_⟩, by rw [upd_ne (ne_of_none h hp)]; exact h⟩, fun b o u h => by rw [upd_ne (ne_of_none h hp)]; exact h, fun n a h => h, fun b x h => by rw [upd_ne (ne_of_none h hp)]; exact h⟩
    have : b ≠ p := ne_of_none h hp
    simp [hb.2, this]
  refine ⟨⟨r.len, r.nd, fun n m e => ?_, fun a ha => ?_, tabs_new r.tab hp⟩, ⟨⟨[], by simp⟩, fun v d h => Rep.keep k d v h⟩⟩
  · obtain ⟨a, h1, h2⟩ := r.at_ n m e
    exact ⟨a, h1, h2.keep k fun _ _ q => by rw [upd_ne (ne_of_none q hp)]; exact q⟩
  · rcases List.mem_cons.mp ha with rfl | ha
    · exact ⟨(r.free hp).1, _, upd_same⟩
    · obtain ⟨h1, u, e⟩ := r.rv a ha
      exact ⟨h1, u, by rw [upd_ne (ne_of_none e hp)]; exact e⟩
/-- the reserved list grows -/
theorem RelS.grow {S : Store} {p : Addr} {ws xs : List V} (r : RelS K μ S H) (hp : p ∈ μ.rv) (hw : H p = some (.lst ws)) :
    RelS K μ S (upd H p (.lst xs)) ∧ Mono K μ H μ (upd H p (.lst xs)) := by
  have k : Keeps μ μ H (upd H p (.lst xs)) := by
    refine ⟨fun b zs h => ?_, fun b zs hb h => ⟨hb, ?_⟩, fun b o u h => by rw [upd_ne (ne_of h hw (by intro z; cases z))]; exact h, fun _ _ h => h, fun b x h => by rw [upd_ne (ne_of h hw (by intro z; cases z))]; exact h⟩
    · rcases h with h | ⟨ob, h⟩
      · exact .inl (by rw [upd_ne (ne_of h hw (by intro z; cases z))]; exact h)
      · exact .inr ⟨ob, by rw [upd_ne (ne_of h hw (by intro z; cases z))]; exact h⟩
    · have hne : b ≠ p := by rintro rfl; exact hb.2 hp
      rw [upd_ne hne]; exact h
  refine ⟨⟨r.len, r.nd, fun n m e => ?_, fun a ha => ?_, tabs_set r.tab hw (.lst _)⟩, ⟨⟨[], by simp⟩, fun v d h => Rep.keep k d v h⟩⟩
  · obtain ⟨a, h1, h2⟩ := r.at_ n m e
    refine ⟨a, h1, h2.keep k fun o _ q => ?_⟩
    have : a ≠ p := by rintro rfl; exact (r.rv _ hp).1 (mem_of_get h1)
    rw [upd_ne this]; exact q
  · obtain ⟨h1, u, e⟩ := r.rv a ha
    by_cases hap : a = p
    · subst hap; exact ⟨h1, _, upd_same⟩
    · exact ⟨h1, u, by rw [upd_ne hap]; exact e⟩
theorem Keeps.drop {ρ : List Addr} (h : ∀ a ∈ ρ, a ∈ μ.rv) : Keeps μ ⟨μ.pl, ρ⟩ H H :=
  ⟨fun _ _ h => h, fun b xs hb e => ⟨⟨hb.1, fun hm => hb.2 (h b hm)⟩, e⟩, fun _ _ _ h => h, fun _ _ h => h, fun _ _ h => h⟩
/-- some are let go -/
theorem RelS.unreserve {S : Store} {ρ : List Addr} (r : RelS K μ S H) (h : ∀ a ∈ ρ, a ∈ μ.rv) : RelS K ⟨μ.pl, ρ⟩ S H ∧ Mono K μ H ⟨μ.pl, ρ⟩ H := by
  refine ⟨⟨r.len, r.nd, fun n m e => ?_, fun a ha => r.rv a (h a ha), r.tab⟩, ⟨⟨[], by simp⟩, fun v d q => Rep.keep (Keeps.drop h) d v q⟩⟩
  obtain ⟨a, h1, h2⟩ := r.at_ n m e
  exact ⟨a, h1, h2.keep (Keeps.drop h) fun _ _ q => q⟩
end
end DL

set_option linter.all false
/-! DL.Val: the operations by values. -/
namespace DL
open PySem L2
section
variable {K : KW} {μ : Mu} {S : Store} {H : Hp}
theorem lst_of {x : V} {d : D} {ds : List D} (rs : RelS K μ S H) (r : Rep K μ H x d) (e : lstOf S d = some ds) : ∃ a xs, x = .ref a ∧ SqL K H a xs ∧ RepL K μ H xs ds := by
  cases r with
  | lst h1 h2 h3 => simp [lstOf] at e; subst e; exact ⟨_, _, rfl, .inl (.inl h2), h3⟩
  | ro h1 => simp [lstOf] at e; subst e; exact ⟨_, _, rfl, h1.sql, .ints⟩
  | rf h1 =>
    simp [lstOf] at e
    obtain ⟨a, xs, e1, e2, e3⟩ := rs.lst_at e
    rw [h1] at e1
    cases e1
    exact ⟨_, xs, rfl, .inl (.inl e2), e3⟩
  | _ => simp [lstOf] at e
theorem lstM_of {x : V} {d : D} {ds : List D} (rs : RelS K μ S H) (r : Rep K μ H x d) (e : lstOfM S d = some ds) : ∃ a xs, x = .ref a ∧ Rd H a (.lst xs) ∧ RepL K μ H xs ds := by
  cases r with
  | lst h1 h2 h3 => simp [lstOfM] at e; subst e; exact ⟨_, _, rfl, .inl h2, h3⟩
  | rf h1 =>
    simp [lstOfM] at e
    obtain ⟨a, xs, e1, e2, e3⟩ := rs.lst_at e
    rw [h1] at e1
    cases e1
    exact ⟨_, xs, rfl, .inl e2, e3⟩
  | _ => simp [lstOfM] at e
theorem seq_of {x : V} {d : D} {ds : List D} (rs : RelS K μ S H) (r : Rep K μ H x d) (e : seqOf S d = some ds) : ∃ a xs, x = .ref a ∧ (SqL K H a xs ∨ SqT K H a xs) ∧ RepL K μ H xs ds := by
  cases r with
  | tup h1 h2 => simp [seqOf] at e; subst e; exact ⟨_, _, rfl, .inr h1, h2⟩
  | lst h1 h2 h3 => simp [seqOf] at e; subst e; exact ⟨_, _, rfl, .inl (.inl (.inl h2)), h3⟩
  | ro h1 => simp [seqOf] at e; subst e; exact ⟨_, _, rfl, .inl h1.sql, .ints⟩
  | rf h1 =>
    simp [seqOf] at e
    obtain ⟨a, xs, e1, e2, e3⟩ := rs.lst_at e
    rw [h1] at e1
    cases e1
    exact ⟨_, xs, rfl, .inl (.inl (.inl e2)), e3⟩
  | _ => simp [seqOf] at e
mutual
theorem dp_of : ∀ (d : D) (x : V), Rep K μ H x d → d.plain = true → Dp K H x d
  | .none, _, h, _ => by cases h; exact .non
  | .bool _, _, h, _ => by cases h; exact .bl _
  | .int _, _, h, _ => by cases h; exact .int _
  | .str _, _, h, _ => by cases h; exact .str _
  | .list ds, _, h, p => by
    cases h with
    | lst h1 h2 h3 => exact .lst (.inl (.inl h2)) (dpL_of ds _ h3 (by simpa [PyData.plain] using p))
  | .tuple ds, _, h, p => by
    cases h with
    | tup h1 h2 => exact .tup h1 (dpL_of ds _ h2 (by simpa [PyData.plain] using p))
  | .dict _, _, h, p => by simp [PyData.plain] at p
theorem dpL_of : ∀ (ds : List D) (xs : List V), RepL K μ H xs ds → PyData.plainAll ds = true → DpAll K H xs ds
  | [], _, h, _ => by cases h; exact .nil
  | d :: ds, _, h, p => by
    cases h with
    | cons h1 h2 =>
      have p' : d.plain = true ∧ PyData.plainAll ds = true := by simpa [PyData.plainAll] using p
      exact .cons (dp_of d _ h1 p'.1) (dpL_of ds _ h2 p'.2)
end
theorem res_dp {x : V} {d : D} (rs : RelS K μ S H) (r : Rep K μ H x d) (p : (res S d).plain = true) : Dp K H x (res S d) := by
  cases r with
  | rf h1 =>
    rename_i a n
    simp [res] at p ⊢
    cases e : atL S n with
    | none => rw [e] at p; simp [PyData.plain] at p
    | some ds =>
      rw [e] at p
      obtain ⟨b, xs, e1, e2, e3⟩ := rs.lst_at e
      rw [h1] at e1
      cases e1
      exact .lst (.inl (.inl e2)) (dpL_of ds _ e3 (by simpa [PyData.plain] using p))
  | ro h1 => simp [res, PyData.plain] at p
  | non => exact .non
  | bl => exact .bl _
  | int => exact .int _
  | str => exact .str _
  | lst h1 h2 h3 => exact dp_of _ _ (.lst h1 h2 h3) p
  | tup h1 h2 => exact dp_of _ _ (.tup h1 h2) p
theorem _root_.DL.RepL.rep {xs : List V} {ds : List D} (h : RepL K μ H xs ds) : ∀ k, RepL K μ H (List.replicate k xs).flatten (List.replicate k ds).flatten
  | 0 => .nil
  | k + 1 => by
    rw [List.replicate_succ, List.replicate_succ, List.flatten_cons, List.flatten_cons]
    exact h.append (RepL.rep h k)
theorem mk_ok {m : Bool} {xs : List V} {ds : List D} {d : D} {S' : Store} {Q : VK} (rs : RelS K μ S H) (h : RepL K μ H xs ds) (e : mkL m ds S = .ok d S')
    (q : ∀ z μ' H', RelS K μ' S' H' → Ext K μ H μ' H' → Rep K μ' H' z d → Q z H') : xs.length ≤ sizeLine ∧ ∀ p, H p = none → Q (.ref p) (upd H p (.lst xs)) := by
  unfold mkL at e
  by_cases hz : ds.length ≤ sizeLine
  · rw [if_pos hz] at e
    refine ⟨by rw [h.length]; exact hz, fun p hp => ?_⟩
    cases m with
    | true =>
      simp at e
      obtain ⟨e1, e2⟩ := e
      subst e1 e2
      obtain ⟨h1, h2, h3⟩ := rs.place hp h
      exact q _ _ _ h1 h2 h3
    | false =>
      simp at e
      obtain ⟨e1, e2⟩ := e
      subst e1 e2
      obtain ⟨h1, h2⟩ := rs.new (o := .lst xs) hp
      exact q _ _ _ h1 h2 (.lst (rs.free hp) upd_same (h2.monoL h))
  · rw [if_neg hz] at e; cases e
theorem mkT_ok {xs : List V} {ds : List D} {d : D} {S' : Store} {Q : VK} (rs : RelS K μ S H) (h : RepL K μ H xs ds) (e : mkT ds S = .ok d S')
    (q : ∀ z μ' H', RelS K μ' S' H' → Ext K μ H μ' H' → Rep K μ' H' z d → Q z H') : xs.length ≤ sizeLine ∧ ∀ p, H p = none → Q (.ref p) (upd H p (.tup xs)) := by
  unfold mkT at e
  by_cases hz : ds.length ≤ sizeLine
  · rw [if_pos hz] at e
    cases e
    refine ⟨by rw [h.length]; exact hz, fun p hp => ?_⟩
    obtain ⟨h1, h2⟩ := rs.new (o := .tup xs) hp
    exact q _ _ _ h1 h2 (.tup (.inl (.inl upd_same)) (h2.monoL h))
  · rw [if_neg hz] at e; cases e
end
section
variable {X : Cx} {pins : List (Addr × Obj)} {σ : L2.St} {H : Hp} {s : Shared}
theorem Inv_lstR {l : Addr} {xs : List V} (I : Inv X pins σ H s) (r : Rd H l (.lst xs)) : xs.length ≤ sizeLine ∧ ∃ (its : List Value) (n : Nat), Vals xs its ∧ xs.length = its.length ∧ s.heap.get? l = some { cls := .type "list", data := .seq its.toArray n } := by
  obtain ⟨z, its, n, r, e⟩ := r.ok I.hok
  exact ⟨z, its, n, r, r.length, e⟩
/-- a two-place operation, by data -/
def rOp (K : KW) (f : D → D → Store → Res D) : R2 := fun x y H Q => ∃ μ S a b d S', RelS K μ S H ∧ Rep K μ H x a ∧ Rep K μ H y b ∧ f a b S = .ok d S' ∧
  ∀ z μ' H', RelS K μ' S' H' → Ext K μ H μ' H' → Rep K μ' H' z d → Q z H'
theorem small64_iff {i : Int} : small64 i = true ↔ -(2 ^ 64) < i ∧ i < 2 ^ 64 := by simp [small64]
theorem op_bin (o : Operator) (m : Bool) : OpR X (binaryOp o) (rOp X.kw (binV o m)) := by
  intro pins s σ H x y v u Q I rx ry h
  obtain ⟨μ, S, a, b, d, S', rs, ra, rb, e, q⟩ := h
  unfold binV at e
  split at e
  · cases ra; cases rb; cases e
    exact op_add pins s σ H _ _ v u Q I rx ry ⟨_, _, rfl, rfl, q _ _ _ rs .refl (.int _)⟩
  · cases ra; cases rb; cases e
    exact op_sub pins s σ H _ _ v u Q I rx ry ⟨_, _, rfl, rfl, q _ _ _ rs .refl (.int _)⟩
  · cases ra; cases rb
    split at e
    · rename_i hc
      cases e
      refine op_mul pins s σ H _ _ v u Q I rx ry ⟨_, _, rfl, rfl, ?_, q _ _ _ rs .refl (.int _)⟩
      rw [Bool.or_eq_true, small64_iff, small64_iff] at hc
      exact hc
    · cases e
  · cases ra; cases rb
    split at e
    · rename_i hc
      cases e
      exact op_fdiv pins s σ H _ _ v u Q I rx ry ⟨_, _, rfl, rfl, hc, q _ _ _ rs .refl (.int _)⟩
    · cases e
  · cases ra; cases rb
    split at e
    · rename_i hc
      cases e
      exact op_mod pins s σ H _ _ v u Q I rx ry ⟨_, _, rfl, rfl, hc, q _ _ _ rs .refl (.int _)⟩
    · cases e
  · cases ra; cases rb
    split at e
    · rename_i hc
      cases e
      exact op_pow pins s σ H _ _ v u Q I rx ry ⟨_, _, rfl, rfl, hc, q _ _ _ rs .refl (.int _)⟩
    · cases e
  · cases ra with
    | tup t1 l1 =>
    cases rb with
    | tup t2 l2 =>
    rename_i xs ys a1 vs1 a2 vs2
    have hz : xs.length + ys.length ≤ sizeLine ∧ d = .tuple (xs ++ ys) ∧ S' = S := by
      unfold mkT at e
      split at e
      · rename_i hc; cases e; exact ⟨by simpa using hc, rfl, rfl⟩
      · cases e
    obtain ⟨hz, e1, e2⟩ := hz
    subst e1 e2
    refine op_catA pins s σ H _ _ v u Q I rx ry ⟨a1, a2, vs1, vs2, rfl, rfl, t1, t2, by rw [l1.length, l2.length]; exact hz, fun h0 => ?_, fun _ h0 => ?_, fun _ _ p hp => ?_⟩
    · refine q _ _ _ rs .refl (.tup t2 ?_)
      subst h0
      cases l1
      exact l2
    · refine q _ _ _ rs .refl (.tup t1 ?_)
      subst h0
      cases l2
      simpa using l1
    · obtain ⟨h1, h2⟩ := rs.new (o := .tup (vs1 ++ vs2)) hp
      exact q _ _ _ h1 h2 (.tup (.inl (.inl upd_same)) (h2.monoL (l1.append l2)))
  · split at e
    · rename_i xs ys e1 e2
      obtain ⟨l, vs, rfl, h1, l1⟩ := lstM_of rs ra e1
      obtain ⟨b', ws, rfl, h2, l2⟩ := lstM_of rs rb e2
      obtain ⟨hz, q'⟩ := mk_ok rs (l1.append l2) e q
      cases rx
      cases ry
      obtain ⟨z, its, n, r, hl, e⟩ := Inv_lstR I h1
      obtain ⟨z2, its2, n2, r2, hl2, e2⟩ := Inv_lstR I h2
      have hz' : vs.length + ws.length ≤ sizeLine := by simpa using hz
      refine PySem.P.add_list e e2 ?_ (by rw [List.size_toArray, List.size_toArray]; omega)
      have ea : its.toArray ++ its2.toArray = (its ++ its2).toArray := by simp
      rw [ea]
      exact ⟨.ref _, _, I.lnew (t' := s.toks) (r.append r2) (by rw [List.length_append]; omega), rfl, q' _ I.fresh⟩
    · cases e
  · cases rb
    cases ra with
    | tup t1 l1 =>
    split at e
    · rename_i hc
      cases e
      obtain ⟨⟨h1, h2, h3⟩, h4⟩ := hc
      refine op_repT pins s σ H _ _ v u Q I rx ry ⟨_, _, _, rfl, rfl, t1, fun h0 => ?_, h2, h3, by rw [l1.length]; exact h4, fun p hp => ?_⟩
      · subst h0
        cases l1
        exact h1 rfl
      · obtain ⟨k1, k2⟩ := rs.new (o := .tup (List.replicate _ _).flatten) hp
        exact q _ _ _ k1 k2 (.tup (.inl (.inl upd_same)) (k2.monoL (l1.rep _)))
    · cases e
  · cases rb
    cases ra with
    | lst t0 t1 l1 =>
    split at e
    · rename_i hc
      obtain ⟨_, q'⟩ := mk_ok rs (l1.rep _) e q
      exact op_rep pins s σ H _ _ v u Q I rx ry ⟨_, _, _, rfl, rfl, t1, hc.1.1, hc.1.2, by rw [l1.length]; exact hc.2, q'⟩
    · cases e
  · cases e

def rOp0 (K : KW) (f : D → D → Store → Res D) : R2 := rOp K f
theorem ltOk_ok {a b : D} (h : ltOk a b = true) : (a.plain = true ∧ b.plain = true) ∧ PySem.W.alike a b = true ∧ a ≠ .none ∧ min a.depth b.depth ≤ 60 := by
  simp only [ltOk, Bool.and_eq_true, decide_eq_true_eq] at h
  obtain ⟨hp, ⟨h1, h2⟩, h3⟩ := h
  exact ⟨hp, h1, by rintro rfl; simp [isNone] at h2, h3⟩
theorem eqOk_ok {a b : D} (h : eqOk a b = true) : a.plain = true ∧ b.plain = true ∧ min a.depth b.depth ≤ 60 := by
  simp only [eqOk, Bool.and_eq_true, decide_eq_true_eq] at h
  exact ⟨h.1.1, h.1.2, h.2⟩
theorem inOk_ok {xs : List D} {a : D} (h : inOk xs a = true) : PyData.plainAll xs = true ∧ a.plain = true ∧ min (PyData.depthAll xs) a.depth ≤ 60 := by
  simp only [inOk, Bool.and_eq_true, decide_eq_true_eq] at h
  exact ⟨h.1.1, h.1.2, h.2⟩
/-- data that read: what a comparison asks -/
theorem reads_of {μ : Mu} {S : Store} {x : V} {v : Value} {d : D} (I : Inv X pins σ H s) (rs : RelS X.kw μ S H) (r : Rep X.kw μ H x d) (rx : RelV x v) (p : (res S d).plain = true) : ∃ as, Reads s.heap v (res S d) as :=
  Dp.reads I _ x v (res_dp rs r p) rx
theorem readsL_of {μ : Mu} {S : Store} {x : V} {v : Value} {d : D} {xs : List D} (I : Inv X pins σ H s) (rs : RelS X.kw μ S H) (r : Rep X.kw μ H x d) (rx : RelV x v) (e : seqOf S d = some xs) (p : PyData.plainAll xs = true) :
    (∃ as, Reads s.heap v (.list xs) as) ∨ ∃ as, Reads s.heap v (.tuple xs) as := by
  obtain ⟨a, vs, rfl, h1, h2⟩ := seq_of rs r e
  rcases h1 with h1 | h1
  · exact .inl (Dp.reads I _ _ _ (.lst h1 (dpL_of _ _ h2 p)) rx)
  · exact .inr (Dp.reads I _ _ _ (.tup h1 (dpL_of _ _ h2 p)) rx)
/-- is a constant -/
theorem is_const {x y : V} {v u : Value} {a b : D} {M : Model} {A : Around} {K : KW} {μ : Mu} {H : Hp} (rx : RelV x v) (ra : Rep K μ H x a) (ry : RelV y u) (rb : Rep K μ H y b) (hb : isConst b = true) :
    PySem.plainIs v u = true ∧ (beqD a b = true → v = u) ∧ (beqD a b = false → v ≠ u) := by
  cases b with
  | none =>
    cases rb
    cases ry
    cases ra <;> first
      | (cases rx; simp [PySem.plainIs, beqD]; done)
      | (obtain ⟨t, rfl⟩ := rx; simp [PySem.plainIs, beqD]; done)
  | bool k =>
    cases rb
    cases ry
    cases ra <;> first
      | (cases rx; simp [PySem.plainIs, beqD]; done)
      | (obtain ⟨t, rfl⟩ := rx; simp [PySem.plainIs, beqD]; done)
  | _ => simp [isConst] at hb
theorem op_cmp (o : CmpOp) (hu : X.A.units + 200 < cLine) : OpR X (compareOp o) (rOp X.kw (cmpV o)) := by
  intro pins s σ H x y v u Q I rx ry h
  obtain ⟨μ, S, a, b, d, S', rs, ra, rb, e, q⟩ := h
  have fin : ∀ k, d = .bool k → S' = S → EP X pins σ Q (.bool k) s := fun k e1 e2 => by
    subst e1 e2
    exact ⟨.bl k, H, I, rfl, q _ _ _ rs .refl (.bl k)⟩
  cases o with
  | Eq =>
    simp only [cmpV] at e
    split at e
    · rename_i hc
      obtain ⟨p1, p2, p3⟩ := eqOk_ok hc
      obtain ⟨as, r1⟩ := reads_of I rs ra rx p1
      obtain ⟨bs, r2⟩ := reads_of I rs rb ry p2
      cases e
      exact SeqAt.eq_plain r1 r2 p1 p2 (by omega) (fin _ rfl rfl)
    · cases e
  | NotEq =>
    simp only [cmpV] at e
    split at e
    · rename_i hc
      obtain ⟨p1, p2, p3⟩ := eqOk_ok hc
      obtain ⟨as, r1⟩ := reads_of I rs ra rx p1
      obtain ⟨bs, r2⟩ := reads_of I rs rb ry p2
      cases e
      exact SeqAt.ne_plain r1 r2 p1 p2 (by omega) (fin _ rfl rfl)
    · cases e
  | Lt =>
    simp only [cmpV] at e
    split at e
    · rename_i hc
      obtain ⟨⟨p1, p2⟩, h1, h2, h3⟩ := ltOk_ok hc
      obtain ⟨as, r1⟩ := reads_of I rs ra rx p1
      obtain ⟨bs, r2⟩ := reads_of I rs rb ry p2
      cases e
      exact PySem.W.lt_data r1 r2 h1 h2 (by omega) (fin _ rfl rfl)
    · cases e
  | Gt =>
    simp only [cmpV] at e
    split at e
    · rename_i hc
      obtain ⟨⟨p1, p2⟩, h1, h2, h3⟩ := ltOk_ok hc
      obtain ⟨as, r1⟩ := reads_of I rs ra rx p1
      obtain ⟨bs, r2⟩ := reads_of I rs rb ry p2
      cases e
      exact PySem.W.gt_data r1 r2 h1 h2 (by omega) (fin _ rfl rfl)
    · cases e
  | LtE =>
    simp only [cmpV] at e
    split at e
    · rename_i hc
      obtain ⟨⟨p1, p2⟩, h1, h2, h3⟩ := ltOk_ok hc
      obtain ⟨as, r1⟩ := reads_of I rs ra rx p1
      obtain ⟨bs, r2⟩ := reads_of I rs rb ry p2
      cases e
      exact PySem.W.le_data r1 r2 h1 h2 (by omega) (fin _ rfl rfl)
    · cases e
  | GtE =>
    simp only [cmpV] at e
    split at e
    · rename_i hc
      obtain ⟨⟨p1, p2⟩, h1, h2, h3⟩ := ltOk_ok hc
      obtain ⟨as, r1⟩ := reads_of I rs ra rx p1
      obtain ⟨bs, r2⟩ := reads_of I rs rb ry p2
      cases e
      exact PySem.W.ge_data r1 r2 h1 h2 (by omega) (fin _ rfl rfl)
    · cases e
  | Is =>
    simp only [cmpV] at e
    split at e
    · rename_i hc
      cases e
      obtain ⟨h1, h2, h3⟩ := is_const (M := model X.prog X.w) (A := X.A) rx ra ry rb hc
      cases hk : beqD a b with
      | true =>
        cases h2 hk
        exact wpAny_is_self h1 (fin _ (by rw [hk]) rfl)
      | false => exact wpAny_is_other h1 (h3 hk) (fin _ (by rw [hk]) rfl)
    · cases e
  | IsNot =>
    simp only [cmpV] at e
    split at e
    · rename_i hc
      cases e
      obtain ⟨h1, h2, h3⟩ := is_const (M := model X.prog X.w) (A := X.A) rx ra ry rb hc
      cases hk : beqD a b with
      | true =>
        cases h2 hk
        exact wpAny_isNot_self h1 (fin _ (by rw [hk]; rfl) rfl)
      | false => exact wpAny_isNot_other h1 (h3 hk) (fin _ (by rw [hk]; rfl) rfl)
    · cases e
  | In =>
    simp only [cmpV] at e
    split at e
    · rename_i xs hs
      split at e
      · rename_i hc
        obtain ⟨p1, p2, p3⟩ := inOk_ok hc
        obtain ⟨as, r1⟩ := reads_of I rs ra rx p2
        cases e
        rcases readsL_of I rs rb ry hs p1 with ⟨bs, r2⟩ | ⟨bs, r2⟩
        · exact SeqAt.in_list_data r2 r1 p1 p2 (by omega) (fin _ rfl rfl)
        · exact SeqAt.in_tuple_data r2 r1 p1 p2 (by omega) (fin _ rfl rfl)
      · cases e
    · cases e
  | NotIn =>
    simp only [cmpV] at e
    split at e
    · rename_i xs hs
      split at e
      · rename_i hc
        obtain ⟨p1, p2, p3⟩ := inOk_ok hc
        obtain ⟨as, r1⟩ := reads_of I rs ra rx p2
        cases e
        rcases readsL_of I rs rb ry hs p1 with ⟨bs, r2⟩ | ⟨bs, r2⟩
        · exact SeqAt.notIn_list_data r2 r1 p1 p2 (by omega) (fin _ rfl rfl)
        · exact SeqAt.notIn_tuple_data r2 r1 p1 p2 (by omega) (fin _ rfl rfl)
      · cases e
    · cases e
end
end DL

set_option linter.all false
/-! DL.Val2: subscripts, slices, calls of built-ins, methods. -/
namespace PySem.W
open PySem PySem.Calls PyProof.Rows
section
variable {prog : Program} {w : World} {A : Around} {E : Value → Shared → Prop} {s : Shared}
/-- sorted(x) of whatever collects as vs, data that are alike -/
theorem sorted_coll {x : Value} {vs : List Value} {ds : List PyData} {R : Value → PyData → Prop} {Q : Value → Shared → Prop}
    (hcol : ∀ (Q' : List Value → Shared → Prop) (E' : Value → Shared → Prop), (∀ h', (∀ b o, s.heap.get? b = some o → h'.get? b = some o) → Q' vs { s with heap := h' }) → wpAny (model prog w) A.in1 (collect x) Q' E' s)
    (hL : vs.length ≤ sizeLine) (e : EachIs R vs ds) (er : EachIs (fun v b => ∃ as, Reads s.heap v b as) vs ds) (hal : AllAlike ds) (hk : Sortable ds) (hu : ∀ b, b ∈ ds → A.units + 2 + b.depth < cLine)
    (h : ∀ (h1 h' : Heap) (d : Addr) (out : List Value), EachIs R out (ds.mergeSort (dataLe false id)) → (∀ b o, s.heap.get? b = some o → h1.get? b = some o) → (∀ b o, h1.get? b = some o → h'.get? b = some o) → h1.objs.size ≤ d →
      (∃ n, h'.get? d = some (seqObj "list" out.toArray n)) → Q (.ref d) { s with heap := h' }) :
    wpAny (model prog w) A (call (.builtin "sorted") [x]) Q E s := by
  refine call_function_entry_kw (kw := []) kind_sorted plain_sorted entry_sorted (args_sorted1 _) ?_
  unfold Builtin.«sorted»
  refine wpAny_bind (m := checkCount "sorted" 1 1 _) (wpAny_pure ?_)
  refine wpAny_bind (hcol _ _ fun h1 k1 => ?_)
  refine wpAny_bind (wpAny_newList ?_ hL)
  have hat : (h1.push (seqObj "list" vs.toArray 0)).get? h1.objs.size = some (seqObj "list" vs.toArray 0) := Heap.get?_push_size _ rfl
  have hlt : ∀ b o, s.heap.get? b = some o → b ≠ h1.objs.size := fun b o q z => by
    subst z
    exact Nat.lt_irrefl _ (Heap.lt_size (k1 _ o q))
  have er' : EachIs (fun v b => ∃ as, Reads (sortingHeap (h1.push (seqObj "list" vs.toArray 0)) h1.objs.size vs) v b as) vs ds := er.mono fun _ _ ⟨as, r⟩ => ⟨as, PyProof.Rows.Reads.keeps (fun b o q => sortingHeap_old (hlt b o q) (Heap.get?_push_of_some _ (k1 b o q))) r⟩
  have hal' : AllAlike (ds.map id) := by rw [List.map_id]; exact hal
  have hk' : Sortable (ds.map id) := by rw [List.map_id]; exact hk
  refine wpAny_bind (wpAny_holding (wpAny_call_entry_kw slot_list_sort ⟨_, hat, rfl⟩ entry_list_sort (kw := []) ?body (args_list_sort _)))
  case body =>
    refine list_sort_vals (s := { s with heap := h1.push (seqObj "list" vs.toArray 0) }) hat
      (SortsAt.data (s := { s with heap := sortingHeap (h1.push (seqObj "list" vs.toArray 0)) h1.objs.size vs }) er' hal hk (fun d hd => hu d hd)) hL ?_
    obtain ⟨c, hc⟩ := sortedHeap_at (vs := vs) (out := (sortVals (dataKind (sortingHeap (h1.push (seqObj "list" vs.toArray 0)) h1.objs.size vs) ds) false vs vs).toArray) hat
    refine ⟨_, rfl, wpAny_pure ⟨_, rfl, ?_⟩⟩
    have ev := sortVals_data (enc := id) (bs := ds) (h' := sortingHeap (h1.push (seqObj "list" vs.toArray 0)) h1.objs.size vs) false e er' hal'
    rw [List.map_id] at ev
    refine h h1 _ _ _ ev k1 (fun b o q => ?_) (Nat.le_refl _) ⟨c, hc⟩
    have hb : b ≠ h1.objs.size := fun z => by subst z; exact Nat.lt_irrefl _ (Heap.lt_size q)
    rw [sortedHeap_old hb (Heap.lt_size (Heap.get?_push_of_some _ q))]
    exact Heap.get?_push_of_some _ q
end
end PySem.W
namespace DL
open PySem L2
section
variable {X : Cx}
/-- what a call by data asks -/
def rC (K : KW) (f : List D → Store → Res D) : List V → Hp → VK → Prop := fun xs H Q => ∃ μ S ds d S', RelS K μ S H ∧ RepL K μ H xs ds ∧ f ds S = .ok d S' ∧
  ∀ z μ' H', RelS K μ' S' H' → Ext K μ H μ' H' → Rep K μ' H' z d → Q z H'
theorem RepL.one {K : KW} {μ : Mu} {H : Hp} {xs : List V} {d : D} (h : RepL K μ H xs [d]) : ∃ x, xs = [x] ∧ Rep K μ H x d := by
  cases h with
  | cons h1 h2 => cases h2; exact ⟨_, rfl, h1⟩
theorem RepL.two {K : KW} {μ : Mu} {H : Hp} {xs : List V} {d e : D} (h : RepL K μ H xs [d, e]) : ∃ x y, xs = [x, y] ∧ Rep K μ H x d ∧ Rep K μ H y e := by
  cases h with
  | cons h1 h2 =>
    obtain ⟨y, rfl, h3⟩ := h2.one
    exact ⟨_, _, rfl, h1, h3⟩
theorem ix_seqD : IxR X (rOp X.kw subV) := by
  intro value slice pins s σ H x y v u Q I rx ry h hs
  obtain ⟨μ, S, a, b, d, S', rs, ra, rb, e, q⟩ := h
  unfold subV at e
  split at e
  · rename_i i xs hq
    split at e
    · rename_i d' hd
      cases e
      cases rb
      obtain ⟨p, vs, rfl, h1, h2⟩ := seq_of rs ra hq
      unfold atI at hd
      cases hj : ixN xs.length i with
      | none => rw [hj] at hd; cases hd
      | some j =>
        rw [hj] at hd
        obtain ⟨w, e1, r1⟩ := h2.get (show xs[j]? = some d from hd)
        have hat : atI vs i = some w := by
          unfold atI
          rw [h2.length, hj]
          exact e1
        refine ix_seq value slice pins s σ H _ _ v u Q I rx ry ?_ hs
        rcases h1 with h1 | h1
        · exact .inl ⟨p, vs, i, w, rfl, rfl, h1, hat, q _ _ _ rs .refl r1⟩
        · exact .inr (.inl ⟨p, vs, i, w, rfl, rfl, h1, hat, q _ _ _ rs .refl r1⟩)
    · cases e
  · cases e
theorem cut_whole {α : Type} (xs : List α) (lo hi : Option Int) (h : HT.sIx xs.length 0 lo = 0 ∧ HT.sIx xs.length xs.length hi = xs.length) : (xs.drop (HT.sIx xs.length 0 lo)).take (HT.sIx xs.length xs.length hi - HT.sIx xs.length 0 lo) = xs := by
  rw [h.1, h.2]
  simp
theorem RepL.cut {K : KW} {μ : Mu} {H : Hp} {xs : List V} {ds : List D} (h : RepL K μ H xs ds) (lo hi : Option Int) : RepL K μ H (cutV xs lo hi) (cutD ds lo hi) := by
  unfold cutV cutD
  rw [h.length]
  exact (h.drop _).take _
/-- a slice by data -/
def rSlD (K : KW) (m : Bool) : V → Option Int → Option Int → Hp → VK → Prop := fun x lo hi H Q => ∃ μ S a d S', RelS K μ S H ∧ Rep K μ H x a ∧ slcV m a lo hi S = .ok d S' ∧
  ∀ z μ' H', RelS K μ' S' H' → Ext K μ H μ' H' → Rep K μ' H' z d → Q z H'
theorem sl_D (m : Bool) : SlR X (rSlD X.kw m) := by
  intro pins s σ H x v vl vu lo hi sl Q I rx hs pl pu h
  obtain ⟨μ, S, a, d, S', rs, ra, e, q⟩ := h
  refine (sl_tupA.or sl_list) pins s σ H x v vl vu lo hi sl Q I rx hs pl pu ?_
  unfold slcV at e
  split at e
  · rename_i xs
    cases e
    cases ra with
    | tup t1 l1 =>
      rename_i p vs
      refine .inl ⟨p, vs, rfl, t1, fun hw => ?_, fun hw p' hp => ?_⟩
      · refine q _ _ _ rs .refl (.tup t1 ?_)
        have : cutD xs lo hi = xs := by
          unfold cutD
          exact cut_whole xs lo hi (by rw [l1.length] at hw; exact hw)
        rw [this]
        exact l1
      · obtain ⟨h1, h2⟩ := rs.new (o := .tup (cutV vs lo hi)) hp
        exact q _ _ _ h1 h2 (.tup (.inl (.inl upd_same)) (h2.monoL (l1.cut lo hi)))
  · split at e
    · rename_i xs hx
      obtain ⟨p, vs, rfl, h1, h2⟩ := lst_of rs ra hx
      obtain ⟨_, q'⟩ := mk_ok rs (h2.cut lo hi) e q
      exact .inr ⟨p, vs, rfl, h1, q'⟩
    · cases e
theorem intsOf_eq : ∀ {xs : List D} {is : List Int}, intsOf xs = some is → xs = is.map .int
  | [], is, h => by simp [intsOf] at h; subst h; rfl
  | .int i :: r, is, h => by
    simp [intsOf] at h
    obtain ⟨a, h1, h2⟩ := h
    subst h2
    rw [intsOf_eq h1]; rfl
  | .none :: _, _, h => by simp [intsOf] at h
  | .bool _ :: _, _, h => by simp [intsOf] at h
  | .str _ :: _, _, h => by simp [intsOf] at h
  | .list _ :: _, _, h => by simp [intsOf] at h
  | .tuple _ :: _, _, h => by simp [intsOf] at h
  | .dict _ :: _, _, h => by simp [intsOf] at h
theorem boolsOf_eq : ∀ {xs : List D} {is : List Bool}, boolsOf xs = some is → xs = is.map .bool
  | [], is, h => by simp [boolsOf] at h; subst h; rfl
  | .bool i :: r, is, h => by
    simp [boolsOf] at h
    obtain ⟨a, h1, h2⟩ := h
    subst h2
    rw [boolsOf_eq h1]; rfl
  | .none :: _, _, h => by simp [boolsOf] at h
  | .int _ :: _, _, h => by simp [boolsOf] at h
  | .str _ :: _, _, h => by simp [boolsOf] at h
  | .list _ :: _, _, h => by simp [boolsOf] at h
  | .tuple _ :: _, _, h => by simp [boolsOf] at h
  | .dict _ :: _, _, h => by simp [boolsOf] at h
theorem RepL.intsV {K : KW} {μ : Mu} {H : Hp} : ∀ {xs : List V} {is : List Int}, RepL K μ H xs (is.map .int) → xs = is.map V.int
  | [], [], _ => rfl
  | [], _ :: _, h => by cases h
  | _ :: _, [], h => by cases h
  | x :: xs, i :: is, h => by
    cases h with
    | cons h1 h2 =>
      cases h1
      rw [RepL.intsV h2]; rfl
theorem RepL.boolsV {K : KW} {μ : Mu} {H : Hp} : ∀ {xs : List V} {is : List Bool}, RepL K μ H xs (is.map .bool) → xs = is.map V.bl
  | [], [], _ => rfl
  | [], _ :: _, h => by cases h
  | _ :: _, [], h => by cases h
  | x :: xs, i :: is, h => by
    cases h with
    | cons h1 h2 =>
      cases h1
      rw [RepL.boolsV h2]; rfl

theorem alikeB_ok {xs : List D} (h : alikeB xs = true) : PySem.W.AllAlike xs := by
  intro d hd d' hd'
  simp only [alikeB, List.all_eq_true] at h
  exact h d hd d' hd'
theorem sortOk_ok {xs : List D} (h : sortOk xs = true) : PyData.plainAll xs = true ∧ PySem.W.AllAlike xs ∧ PySem.W.Sortable xs ∧ ∀ x ∈ xs, x.depth ≤ 60 := by
  simp only [sortOk, Bool.and_eq_true, Bool.or_eq_true, List.all_eq_true, decide_eq_true_eq] at h
  obtain ⟨⟨⟨h0, h1⟩, h2⟩, h3⟩ := h
  refine ⟨h0, alikeB_ok h1, ?_, h3⟩
  rcases h2 with h2 | h2
  · refine .inl fun d hd => ?_
    have := h2 d hd
    unfold isTup1 at this
    split at this
    · rename_i x r; exact ⟨x, r, rfl⟩
    · cases this
  · refine .inr fun d hd => ?_
    have := h2 d hd
    refine ⟨by rintro rfl; simp [isTupN] at this, fun ys => by rintro rfl; simp [isTupN] at this⟩
theorem plainAll_mem : ∀ {xs : List D} {x : D}, PyData.plainAll xs = true → x ∈ xs → x.plain = true
  | [], _, _, h => by cases h
  | y :: ys, x, p, h => by
    have p' : y.plain = true ∧ PyData.plainAll ys = true := by simpa [PyData.plainAll] using p
    rcases List.mem_cons.mp h with rfl | h
    · exact p'.1
    · exact plainAll_mem p'.2 h
/-- item by item: a value, and what it stands for -/
theorem each_of {K : KW} {μ : Mu} {H : Hp} : ∀ {xs : List V} {us : List Value} {ds : List D}, Vals xs us → RepL K μ H xs ds → PySem.W.EachIs (fun u d => ∃ x, RelV x u ∧ Rep K μ H x d) us ds
  | [], _, _, .nil, h => by cases h; exact .nil
  | x :: xs, _, _, .cons r t, h => by
    cases h with
    | cons h1 h2 => exact .cons ⟨x, r, h1⟩ (each_of t h2)
theorem of_each {K : KW} {μ : Mu} {H : Hp} : ∀ {us : List Value} {ds : List D}, PySem.W.EachIs (fun u d => ∃ x, RelV x u ∧ Rep K μ H x d) us ds → ∃ xs, Vals xs us ∧ RepL K μ H xs ds
  | [], _, h => by cases h; exact ⟨[], .nil, .nil⟩
  | u :: us, _, h => by
    cases h with
    | cons h1 h2 =>
      obtain ⟨x, r, p⟩ := h1
      obtain ⟨xs, t, q⟩ := of_each h2
      exact ⟨x :: xs, .cons r t, .cons p q⟩
theorem each_reads {pins : List (Addr × Obj)} {s : Shared} {σ : L2.St} {H : Hp} {μ : Mu} (I : Inv X pins σ H s) : ∀ {xs : List V} {us : List Value} {ds : List D}, Vals xs us → RepL X.kw μ H xs ds → PyData.plainAll ds = true → PySem.W.EachIs (fun v d => ∃ as, Reads s.heap v d as) us ds
  | [], _, _, .nil, h, _ => by cases h; exact .nil
  | x :: xs, _, _, .cons r t, h, p => by
    cases h with
    | cons h1 h2 =>
      have p' := plainAll_mem p List.mem_cons_self
      exact .cons (Dp.reads I _ x _ (dp_of _ _ h1 p') r) (each_reads I t h2 (by simp only [PyData.plainAll, Bool.and_eq_true] at p; exact p.2))
theorem collect_seq {pins : List (Addr × Obj)} {s : Shared} {σ : L2.St} {H : Hp} {A : Around} {p : Addr} {xs : List V} (I : Inv X pins σ H s) (h : SqL X.kw H p xs ∨ SqT X.kw H p xs) :
    xs.length ≤ sizeLine ∧ ∃ its : List Value, Vals xs its ∧ ∀ (Q' : List Value → Shared → Prop) (E' : Value → Shared → Prop), (∀ h', (∀ b o, s.heap.get? b = some o → h'.get? b = some o) → Q' its { s with heap := h' }) → wpAny (model X.prog X.w) A (collect (.ref p)) Q' E' s := by
  rcases h with h | h
  · obtain ⟨its, r, ⟨o, n, e, c, _, d⟩, z⟩ := I.list h
    refine ⟨z, its, r, fun Q' E' q => wpAny_collect_seq p (.inl rfl) e c d (fun h' k => ?_) ?_⟩
    · simpa using q h' k
    · have := r.length
      simp only [List.size_toArray]; omega
  · obtain ⟨its, r, ⟨o, e, c, n, d⟩, z⟩ := I.tuple h
    refine ⟨z, its, r, fun Q' E' q => wpAny_collect_seq p (.inr rfl) e c d (fun h' k => ?_) ?_⟩
    · simpa using q h' k
    · have := r.length
      simp only [List.size_toArray]; omega
theorem call_sortedD (hu : X.A.units + 200 < cLine) {m : Bool} : CallR X (.builtin "sorted") (rC X.kw (sortedV m)) := by
  intro pins s σ H xs us Q I r h
  obtain ⟨μ, S, ds, d, S', rs, rl, e, q⟩ := h
  match ds, e with
  | [a], e =>
    obtain ⟨x, rfl, ra⟩ := rl.one
    obtain ⟨u, rfl, rx⟩ := vals1 r
    simp only [sortedV] at e
    cases hs : seqOf S a with
    | none => rw [hs] at e; cases e
    | some zs =>
      rw [hs] at e
      dsimp only at e
      by_cases hk : sortOk zs = true
      · rw [if_pos hk] at e
        obtain ⟨p1, p2, p3, p4⟩ := sortOk_ok hk
        obtain ⟨p, vs, rfl, h1, h2⟩ := seq_of rs ra hs
        cases rx
        obtain ⟨z, its, rv, hc⟩ := collect_seq (A := X.A.in1) I h1
        refine PySem.W.sorted_coll hc (by rw [← rv.length]; exact z) (each_of rv h2) (each_reads I rv h2 p1) p2 p3 (fun b hb => by have := p4 b hb; omega) fun h1 h' dd out eo k1 k2 hsz ⟨n, hd⟩ => ?_
        obtain ⟨ys, r1, r2⟩ := of_each eo
        obtain ⟨hz, q'⟩ := mk_ok rs r2 e q
        have I1 : Inv X pins σ H { s with heap := h1 } := I.kept (t' := s.toks) k1
        exact ⟨.ref dd, _, I1.laid (h' := h') (t' := s.toks) k2 hsz (show ObjOk X.prog X.w _ _ _ (.lst ys) from ⟨hz, out, n, r1, hd⟩), rfl, q' _ (I1.hok.fresh hsz)⟩
      · rw [if_neg hk] at e; cases e
  | [], e => cases e
  | _ :: _ :: _, e => cases e
theorem call_lenD : CallR X (.builtin "len") (rC X.kw lenV) := by
  intro pins s σ H xs us Q I r h
  obtain ⟨μ, S, ds, d, S', rs, rl, e, q⟩ := h
  match ds, e with
  | [a], e =>
    obtain ⟨x, rfl, ra⟩ := rl.one
    simp only [lenV] at e
    cases hs : seqOf S a with
    | none => rw [hs] at e; cases e
    | some zs =>
      rw [hs] at e
      cases e
      obtain ⟨p, vs, rfl, h1, h2⟩ := seq_of rs ra hs
      refine call_len pins s σ H _ us Q I r ⟨_, (zs.length : Nat), rfl, ?_, q _ _ _ rs .refl (.int _)⟩
      rcases h1 with h1 | h1
      · exact .inl ⟨vs, h1, by rw [h2.length]⟩
      · exact .inr ⟨vs, h1, by rw [h2.length]⟩
  | [], e => cases e
  | _ :: _ :: _, e => cases e
theorem call_absD : CallR X (.builtin "abs") (rC X.kw absV) := by
  intro pins s σ H xs us Q I r h
  obtain ⟨μ, S, ds, d, S', rs, rl, e, q⟩ := h
  unfold absV at e
  split at e
  · obtain ⟨x, rfl, ra⟩ := rl.one
    cases ra
    cases e
    exact call_abs pins s σ H _ us Q I r ⟨_, rfl, q _ _ _ rs .refl (.int _)⟩
  · cases e
theorem call_intD : CallR X (.type "int") (rC X.kw intV) := by
  intro pins s σ H xs us Q I r h
  obtain ⟨μ, S, ds, d, S', rs, rl, e, q⟩ := h
  unfold intV at e
  split at e
  · obtain ⟨x, rfl, ra⟩ := rl.one
    cases ra
    cases e
    exact call_int1 pins s σ H _ us Q I r (.inl ⟨_, rfl, q _ _ _ rs .refl (.int _)⟩)
  · cases e
theorem call_max2D (hc : X.calm = true) : CallR X (.builtin "max") (rC X.kw max2V) := by
  intro pins s σ H xs us Q I r h
  obtain ⟨μ, S, ds, d, S', rs, rl, e, q⟩ := h
  unfold max2V at e
  split at e
  · obtain ⟨x, y, rfl, ra, rb⟩ := rl.two
    cases ra
    cases rb
    cases e
    exact call_max2 hc pins s σ H _ us Q I r ⟨_, _, rfl, q _ _ _ rs .refl (.int _)⟩
  · cases e
theorem call_min2D (hc : X.calm = true) : CallR X (.builtin "min") (rC X.kw min2V) := by
  intro pins s σ H xs us Q I r h
  obtain ⟨μ, S, ds, d, S', rs, rl, e, q⟩ := h
  unfold min2V at e
  split at e
  · obtain ⟨x, y, rfl, ra, rb⟩ := rl.two
    cases ra
    cases rb
    cases e
    exact call_min2 hc pins s σ H _ us Q I r ⟨_, _, rfl, q _ _ _ rs .refl (.int _)⟩
  · cases e
theorem call_listD {m : Bool} : CallR X (.type "list") (rC X.kw (listV m)) := by
  intro pins s σ H xs us Q I r h
  obtain ⟨μ, S, ds, d, S', rs, rl, e, q⟩ := h
  match ds, e with
  | [a], e =>
    obtain ⟨x, rfl, ra⟩ := rl.one
    simp only [listV] at e
    cases hs : seqOf S a with
    | none => rw [hs] at e; cases e
    | some zs =>
      rw [hs] at e
      obtain ⟨p, vs, rfl, h1, h2⟩ := seq_of rs ra hs
      obtain ⟨hz, q'⟩ := mk_ok rs h2 e q
      exact call_list_of pins s σ H _ us Q I r ⟨p, vs, rfl, h1, q'⟩
  | [], e => cases e
  | _ :: _ :: _, e => cases e
theorem call_tupleD : CallR X (.type "tuple") (rC X.kw tupleV) := by
  intro pins s σ H xs us Q I r h
  obtain ⟨μ, S, ds, d, S', rs, rl, e, q⟩ := h
  match ds, e with
  | [a], e =>
    obtain ⟨x, rfl, ra⟩ := rl.one
    simp only [tupleV] at e
    cases hs : seqOf S a with
    | none => rw [hs] at e; cases e
    | some zs =>
      rw [hs] at e
      cases e
      obtain ⟨p, vs, rfl, h1, h2⟩ := seq_of rs ra hs
      refine call_tuple_of pins s σ H _ us Q I r ⟨p, vs, rfl, ?_⟩
      rcases h1 with h1 | h1
      · refine .inl ⟨h1, fun l hl => ?_⟩
        obtain ⟨g1, g2⟩ := rs.new (o := .tup vs) hl
        exact q _ _ _ g1 g2 (.tup (.inl (.inl upd_same)) (g2.monoL h2))
      · exact .inr ⟨h1, q _ _ _ rs .refl (.tup h1 h2)⟩
  | [], e => cases e
  | _ :: _ :: _, e => cases e
theorem call_allD (hc : X.calm = true) : CallR X (.builtin "all") (rC X.kw allV) := by
  intro pins s σ H xs us Q I r h
  obtain ⟨μ, S, ds, d, S', rs, rl, e, q⟩ := h
  match ds, e with
  | [a], e =>
    obtain ⟨x, rfl, ra⟩ := rl.one
    simp only [allV] at e
    cases hs : lstOf S a with
    | none => rw [hs] at e; cases e
    | some zs =>
      rw [hs] at e
      cases hb : boolsOf zs with
      | none => simp [hb] at e
      | some bs =>
        simp only [hb] at e
        cases e
        obtain ⟨p, vs, rfl, h1, h2⟩ := lst_of rs ra hs
        rw [boolsOf_eq hb] at h2
        rw [h2.boolsV] at h1
        exact cr_all hc pins s σ H _ us Q I r ⟨p, bs, rfl, h1, q _ _ _ rs .refl (.bl _)⟩
  | [], e => cases e
  | _ :: _ :: _, e => cases e
theorem call_anyD (hc : X.calm = true) : CallR X (.builtin "any") (rC X.kw anyV) := by
  intro pins s σ H xs us Q I r h
  obtain ⟨μ, S, ds, d, S', rs, rl, e, q⟩ := h
  match ds, e with
  | [a], e =>
    obtain ⟨x, rfl, ra⟩ := rl.one
    simp only [anyV] at e
    cases hs : lstOf S a with
    | none => rw [hs] at e; cases e
    | some zs =>
      rw [hs] at e
      cases hb : boolsOf zs with
      | none => simp [hb] at e
      | some bs =>
        simp only [hb] at e
        cases e
        obtain ⟨p, vs, rfl, h1, h2⟩ := lst_of rs ra hs
        rw [boolsOf_eq hb] at h2
        rw [h2.boolsV] at h1
        exact cr_any hc pins s σ H _ us Q I r ⟨p, bs, rfl, h1, q _ _ _ rs .refl (.bl _)⟩
  | [], e => cases e
  | _ :: _ :: _, e => cases e
theorem call_sumD (hc : X.calm = true) : CallR X (.builtin "sum") (rC X.kw sumV) := by
  intro pins s σ H xs us Q I r h
  obtain ⟨μ, S, ds, d, S', rs, rl, e, q⟩ := h
  match ds, e with
  | [a], e =>
    obtain ⟨x, rfl, ra⟩ := rl.one
    simp only [sumV] at e
    cases hs : lstOf S a with
    | none => rw [hs] at e; cases e
    | some zs =>
      rw [hs] at e
      cases hb : intsOf zs with
      | none => simp [hb] at e
      | some bs =>
        simp only [hb] at e
        cases e
        obtain ⟨p, vs, rfl, h1, h2⟩ := lst_of rs ra hs
        rw [intsOf_eq hb] at h2
        rw [h2.intsV] at h1
        exact cr_sum hc pins s σ H _ us Q I r ⟨p, bs, rfl, h1, q _ _ _ rs .refl (.int _)⟩
  | [], e => cases e
  | _ :: _ :: _, e => cases e

/-! ### methods of lists -/
/-- what a method's call by data asks -/
def rM (K : KW) (f : D → List D → Store → Res D) : V → List V → Hp → VK → Prop := fun x xs H Q => ∃ μ S o ds d S', RelS K μ S H ∧ Rep K μ H x o ∧ RepL K μ H xs ds ∧ f o ds S = .ok d S' ∧
  ∀ z μ' H', RelS K μ' S' H' → Ext K μ H μ' H' → Rep K μ' H' z d → Q z H'
theorem onL_ok {f : Nat → List D → List D → Store → Res D} {o : D} {vs : List D} {S S' : Store} {d : D} (e : onL f o vs S = .ok d S') : ∃ n xs, locOf o = some n ∧ atL S n = some xs ∧ f n xs vs S = .ok d S' := by
  unfold onL at e
  split at e
  · rename_i n hn
    split at e
    · rename_i xs hx; exact ⟨n, xs, hn, hx, e⟩
    · cases e
  · cases e
theorem loc_of {K : KW} {μ : Mu} {H : Hp} {S : Store} {x : V} {o : D} {n : Nat} {ds : List D} (rs : RelS K μ S H) (r : Rep K μ H x o) (hn : locOf o = some n) (hx : atL S n = some ds) : ∃ a xs, x = .ref a ∧ μ.pl[n]? = some a ∧ H a = some (.lst xs) ∧ RepL K μ H xs ds := by
  cases r with
  | rf h1 =>
    simp [locOf] at hn
    subst hn
    obtain ⟨a, xs, e1, e2, e3⟩ := rs.lst_at hx
    rw [h1] at e1
    cases e1
    exact ⟨_, xs, rfl, h1, e2, e3⟩
  | _ => simp [locOf] at hn
theorem mt_appendD : MtR X "list.append" (rM X.kw (onL appendV)) := by
  intro pins s σ H x xs v us Q I rx rv h
  obtain ⟨μ, S, o, ds, d, S', rs, ro, rl, e, q⟩ := h
  obtain ⟨n, zs, hn, hx, e⟩ := onL_ok e
  obtain ⟨a, ys, rfl, h1, h2, h3⟩ := loc_of rs ro hn hx
  unfold appendV at e
  split at e
  · split at e
    · rename_i hz
      cases e
      obtain ⟨y, rfl, ry⟩ := rl.one
      obtain ⟨g1, g2⟩ := rs.set h1 (h3.append (.cons ry .nil))
      exact mt_append pins s σ H _ _ v us Q I rx rv ⟨a, ys, y, rfl, rfl, h2, by rw [h3.length]; exact hz, q _ _ _ g1 g2 .non⟩
    · cases e
  · cases e
theorem lstMM_of {K : KW} {μ : Mu} {S : Store} {H : Hp} {x : V} {d : D} {ds : List D} (rs : RelS K μ S H) (r : Rep K μ H x d) (e : lstOfM S d = some ds) : ∃ a xs, x = .ref a ∧ H a = some (.lst xs) ∧ RepL K μ H xs ds := by
  cases r with
  | lst h1 h2 h3 => simp [lstOfM] at e; subst e; exact ⟨_, _, rfl, h2, h3⟩
  | rf h1 =>
    simp [lstOfM] at e
    obtain ⟨a, xs, e1, e2, e3⟩ := rs.lst_at e
    rw [h1] at e1
    cases e1
    exact ⟨_, xs, rfl, e2, e3⟩
  | _ => simp [lstOfM] at e
theorem mt_extendD : MtR X "list.extend" (rM X.kw (onL extendV)) := by
  intro pins s σ H x xs v us Q I rx rv h
  obtain ⟨μ, S, o, ds, d, S', rs, ro, rl, e, q⟩ := h
  obtain ⟨n, zs, hn, hx, e⟩ := onL_ok e
  obtain ⟨a, ys, rfl, h1, h2, h3⟩ := loc_of rs ro hn hx
  unfold extendV at e
  split at e
  · split at e
    · rename_i ws hw
      split at e
      · rename_i hz
        cases e
        obtain ⟨y, rfl, ry⟩ := rl.one
        obtain ⟨b, vs, rfl, k1, k2⟩ := lstMM_of rs ry hw
        obtain ⟨g1, g2⟩ := rs.set h1 (h3.append k2)
        exact mt_extend pins s σ H _ _ v us Q I rx rv ⟨a, b, ys, vs, rfl, rfl, h2, k1, by rw [h3.length, k2.length]; exact hz, q _ _ _ g1 g2 .non⟩
      · cases e
    · cases e
  · cases e
theorem mt_popAtD (hm : True) : MtR X "list.pop" (rM X.kw (onL popAtV)) := by
  intro pins s σ H x xs v us Q I rx rv h
  obtain ⟨μ, S, o, ds, d, S', rs, ro, rl, e, q⟩ := h
  obtain ⟨n, zs, hn, hx, e⟩ := onL_ok e
  obtain ⟨a, ys, rfl, h1, h2, h3⟩ := loc_of rs ro hn hx
  unfold popAtV at e
  split at e
  · rename_i i S0
    split at e
    · rename_i j hj
      split at e
      · rename_i y hy
        cases e
        obtain ⟨w, rfl, rw'⟩ := rl.one
        cases rw'
        obtain ⟨g1, g2⟩ := rs.set h1 (h3.eraseIdx j)
        obtain ⟨yv, e1, r1⟩ := h3.get hy
        obtain ⟨k1, k2, k3, k4⟩ := ixN_seq hj
        have hz := (I.lstM h2).1
        rw [h3.length] at hz
        have hs : (sizeLine : Nat) < 2 ^ 63 := line63
        exact mt_popAt pins s σ H _ _ v us Q I rx rv ⟨a, ys, i, j, yv, rfl, rfl, h2, by omega, by omega, by rw [h3.length]; exact k1, e1, q _ _ _ g1 g2 (g2.mono _ _ r1)⟩
      · cases e
    · cases e
  · cases e
theorem mt_popD : MtR X "list.pop" (rM X.kw (onL popV)) := by
  intro pins s σ H x xs v us Q I rx rv h
  obtain ⟨μ, S, o, ds, d, S', rs, ro, rl, e, q⟩ := h
  obtain ⟨n, zs, hn, hx, e⟩ := onL_ok e
  obtain ⟨a, ys, rfl, h1, h2, h3⟩ := loc_of rs ro hn hx
  unfold popV at e
  split at e
  · split at e
    · rename_i y hy
      cases e
      cases rl
      obtain ⟨g1, g2⟩ := rs.set h1 h3.dropLast
      obtain ⟨yv, e1, r1⟩ := h3.get hy
      exact mt_pop pins s σ H _ _ v us Q I rx rv ⟨a, ys, yv, rfl, rfl, h2, by rw [h3.length]; exact e1, q _ _ _ g1 g2 (g2.mono _ _ r1)⟩
    · cases e
  · cases e
theorem mt_removeD (hu : X.A.units + 200 < cLine) : MtR X "list.remove" (rM X.kw (onL removeV)) := by
  intro pins s σ H x xs v us Q I rx rv h
  obtain ⟨μ, S, o, ds, d, S', rs, ro, rl, e, q⟩ := h
  obtain ⟨n, zs, hn, hx, e⟩ := onL_ok e
  obtain ⟨a, ys, rfl, h1, h2, h3⟩ := loc_of rs ro hn hx
  unfold removeV at e
  split at e
  · split at e
    · rename_i hk
      split at e
      · rename_i j hj
        cases e
        obtain ⟨p1, p2, p3⟩ := inOk_ok hk
        obtain ⟨y, rfl, ry⟩ := rl.one
        obtain ⟨w, rfl, rw'⟩ := rv.one
        cases rx
        obtain ⟨as, r1⟩ := reads_of I rs ry rw' p2
        obtain ⟨z, its, m, rr, hl, ho⟩ := I.lstM h2
        obtain ⟨bs, r2⟩ := PySem.W.each_readsAll (h := s.heap) id (vs := its) (bs := zs) (each_reads I rr h3 p1)
        rw [List.map_id] at r2
        obtain ⟨g1, g2⟩ := rs.set h1 (h3.eraseIdx j)
        refine SeqAt.remove_list_data (vs := its.toArray) ⟨_, ho, rfl, m, rfl⟩ (by simpa using r2) r1 p1 p2 (by omega) hj (by simp; omega) ?_
        exact ⟨.non, _, I.lset (t' := s.toks) (its' := its.eraseIdx j) h2 ho (by simp) (rr.eraseIdx j) (Nat.le_trans (len_erase _ _) z), rfl, q _ _ _ g1 g2 .non⟩
      · cases e
    · cases e
  · cases e

theorem mt_indexD (hu : X.A.units + 200 < cLine) : MtR X "list.index" (rM X.kw indexV) := by
  intro pins s σ H x xs v us Q I rx rv h
  obtain ⟨μ, S, o, ds, d, S', rs, ro, rl, e, q⟩ := h
  unfold indexV at e
  split at e
  · split at e
    · rename_i zs hx
      split at e
      · rename_i hk
        split at e
        · rename_i j hj
          cases e
          obtain ⟨p1, p2, p3⟩ := inOk_ok hk
          obtain ⟨a, ys, rfl, h2, h3⟩ := lstM_of rs ro hx
          obtain ⟨y, rfl, ry⟩ := rl.one
          obtain ⟨w, rfl, rw'⟩ := rv.one
          cases rx
          obtain ⟨as, r1⟩ := reads_of I rs ry rw' p2
          obtain ⟨z, its, m, rr, hl, ho⟩ := Inv_lstR I h2
          obtain ⟨bs, r2⟩ := PySem.W.each_readsAll (h := s.heap) id (vs := its) (bs := zs) (each_reads I rr h3 p1)
          rw [List.map_id] at r2
          rename_i ad _ _
          have hj' : zs.findIdx? (fun y => PyData.eqv y (res S ad)) = some j := hj
          obtain ⟨hj1, hit, hno⟩ := List.findIdx?_eq_some_iff_getElem.mp hj'
          have hlz : its.length = zs.length := by rw [← hl, h3.length]
          have hsz : (sizeLine : Nat) < 2 ^ 63 - 1 := by decide
          have hz : zs.length ≤ sizeLine := by rw [← h3.length]; exact z
          refine call_meets F.slot_list_index ⟨_, ho, rfl⟩ F.entry_list_index (F.args_list_index_2 _ _)
            (SeqAt.list_index2_found a its.toArray m none #[] w (fun k => PyData.eqv (zs.getD k .none) (res S ad)) j (by simp; omega) (Nat.zero_le _) (by omega) ?_ fun k hk' _ hlt => ?_) ⟨ho, fun k hk' => ?_, ?_⟩
          · simp [hj1, hit]
          · have := hno k hlt
            have hk2 : k < zs.length := by omega
            simp [hk2]
            simpa using this
          · obtain ⟨cs, rk, _, hm, hd⟩ := PySem.W.readsAll_at r2 k its[k] (by simp)
            exact SeqAt.eqAt_plain _ _ _ _ _ _ _ _ rk r1 (plainAll_mem p1 hm) p2 (by show X.A.units + 1 + _ < _; omega)
          · exact ⟨.int j, H, I.tok _, ⟨_, rfl⟩, q _ _ _ rs .refl (.int _)⟩
        · cases e
      · cases e
    · cases e
  · cases e
end
end DL

set_option linter.all false
/-! DL.PE: expressions, by data. -/
namespace DL
open PySem L2
/-- an exception as it stands: class number c, with d at its field -/
def ExcAt (K : KW) (T : Tb) (μ : Mu) (H : Hp) (c : Nat) (d : D) (cls : Value) (od : Option Addr) : Prop :=
  cls = .ref (T.ca c) ∧ ∃ dx v, od = some dx ∧ H dx = some (.xd [(T.cf c, v)]) ∧ Rep K μ H v d
/-- what is wanted behind -/
def Post (K : KW) (T : Tb) (μ : Mu) (H : Hp) {α β : Type} (R : Mu → Hp → β → α → Prop) (Q : β → Hp → Prop) (E : XK) : Res α → Prop
  | .ok a S' => ∀ z μ' H', RelS K μ' S' H' → Ext K μ H μ' H' → R μ' H' z a → Q z H'
  | .exc c d S' => ∀ cls od μ' H', ExcAt K T μ' H' c d cls od → RelS K μ' S' H' → Ext K μ H μ' H' → E cls od H'
  | .bad => False
section
variable {K : KW} {T : Tb} {μ μ1 : Mu} {H H1 : Hp} {α β γ δ : Type} {R : Mu → Hp → β → α → Prop} {R' : Mu → Hp → δ → γ → Prop} {Q Q' : β → Hp → Prop} {E : XK}
theorem Post.mono {r : Res α} (h : Post K T μ H R Q E r) (hq : ∀ z H', Q z H' → Q' z H') : Post K T μ H R Q' E r := by
  cases r with
  | ok a S => exact fun z μ' H' h1 h2 h3 => hq _ _ (h z μ' H' h1 h2 h3)
  | exc c d S => exact h
  | bad => exact h
theorem Post.ext {r : Res α} (h : Post K T μ H R Q E r) (e : Ext K μ H μ1 H1) : Post K T μ1 H1 R Q E r := by
  cases r with
  | ok a S => exact fun z μ' H' h1 h2 h3 => h z μ' H' h1 (e.trans h2) h3
  | exc c d S => exact fun cls od μ' H' h0 h1 h2 => h cls od μ' H' h0 h1 (e.trans h2)
  | bad => exact h
/-- two runs, one behind the other -/
theorem Post.bind {r : Res γ} {f : γ → Store → Res α} (h : Post K T μ H R Q E (r.bind f)) :
    Post K T μ H R' (fun z H1 => ∃ μ1 a S1, RelS K μ1 S1 H1 ∧ Ext K μ H μ1 H1 ∧ R' μ1 H1 z a ∧ Post K T μ1 H1 R Q E (f a S1)) E r := by
  cases r with
  | ok a S => exact fun z μ' H' h1 h2 h3 => ⟨μ', a, S, h1, h2, h3, Post.ext h h2⟩
  | exc c d S => exact h
  | bad => exact h
end
/-- a value as a datum -/
abbrev RV (K : KW) : Mu → Hp → V → D → Prop := Rep K
abbrev RVs (K : KW) : Mu → Hp → List V → List D → Prop := RepL K
def RB : Mu → Hp → Bool → Bool → Prop := fun _ _ b c => b = c
/-- an expression's reading by its evaluation -/
def tE (K : KW) (T : Tb) (F : FS) (W : WX) (x : Ex) : TE := fun σ H Q => ∃ μ S env, RelS K μ S H ∧ RelE K μ H env σ ∧ Post K T μ H (RV K) Q (fun c o H' => W c o σ H') (ev F x env S)
def tEs (K : KW) (T : Tb) (F : FS) (W : WX) (l : List Ex) : TA := fun σ H Q => ∃ μ S env, RelS K μ S H ∧ RelE K μ H env σ ∧ Post K T μ H (RVs K) Q (fun c o H' => W c o σ H') (evs F l env S)
/-- a test -/
def evT (F : FS) (x : Ex) (env : Env) (S : Store) : Res Bool := (ev F x env S).test fun b S' => .ok b S'
def tT (K : KW) (T : Tb) (F : FS) (W : WX) (x : Ex) : TT := fun σ H Q => ∃ μ S env, RelS K μ S H ∧ RelE K μ H env σ ∧ Post K T μ H RB Q (fun c o H' => W c o σ H') (evT F x env S)
theorem PE_imp {X : Cx} {e : Expr} {t t' : TE} (h : PE X e t) (i : ∀ σ H Q, t' σ H Q → t σ H Q) : PE X e t' := ⟨fun pins s σ H Q I hw => h.run pins s σ H Q I (i σ H Q hw)⟩
theorem PT_imp {X : Cx} {e : Expr} {t t' : TT} (h : PT X e t) (i : ∀ σ H Q, t' σ H Q → t σ H Q) : PT X e t' := ⟨fun pins s σ H Q I hw => h.run pins s σ H Q I (i σ H Q hw)⟩
theorem PA_imp {X : Cx} {es : List Expr} {t t' : TA} (h : PA X es t) (i : ∀ σ H Q, t' σ H Q → t σ H Q) : PA X es t' := ⟨fun pos pins s σ H Q I hw => h.run pos pins s σ H Q I (i σ H Q hw)⟩

section
variable {K : KW} {T : Tb} {F : FS} {W : WX}
/-- an operation that raises nothing -/
def NoExc {α : Type} (r : Res α) : Prop := ∀ c d S, r ≠ .exc c d S
theorem Post.ok_of {μ : Mu} {H : Hp} {α β : Type} {R : Mu → Hp → β → α → Prop} {Q : β → Hp → Prop} {E : XK} {r : Res α} (h : Post K T μ H R Q E r) (n : NoExc r) :
    ∃ a S', r = .ok a S' ∧ ∀ z μ' H', RelS K μ' S' H' → Ext K μ H μ' H' → R μ' H' z a → Q z H' := by
  cases r with
  | ok a S => exact ⟨a, S, rfl, h⟩
  | exc c d S => exact absurd rfl (n c d S)
  | bad => exact h.elim
theorem nx_ok {α : Type} {a : α} {S : Store} : NoExc (Res.ok a S) := fun _ _ _ h => by cases h
theorem nx_bad {α : Type} : NoExc (Res.bad : Res α) := fun _ _ _ h => by cases h
theorem nx_mkL {m : Bool} {xs : List D} {S : Store} : NoExc (mkL m xs S) := by
  unfold mkL
  split
  · split
    · exact nx_ok
    · exact nx_ok
  · exact nx_bad
theorem nx_mkT {xs : List D} {S : Store} : NoExc (mkT xs S) := by
  unfold mkT
  split
  · exact nx_ok
  · exact nx_bad
theorem nx_bin {o : Operator} {m : Bool} {a b : D} {S : Store} : NoExc (binV o m a b S) := by
  unfold binV
  repeat' split
  all_goals first | exact nx_ok | exact nx_bad | exact nx_mkT | exact nx_mkL
theorem nx_cmp {o : CmpOp} {a b : D} {S : Store} : NoExc (cmpV o a b S) := by
  unfold cmpV
  repeat' split
  all_goals first | exact nx_ok | exact nx_bad
theorem nx_sub {a b : D} {S : Store} : NoExc (subV a b S) := by
  unfold subV
  repeat' split
  all_goals first | exact nx_ok | exact nx_bad
theorem nx_slc {m : Bool} {a : D} {b c : Option Int} {S : Store} : NoExc (slcV m a b c S) := by
  unfold slcV
  repeat' split
  all_goals first | exact nx_ok | exact nx_bad | exact nx_mkL
theorem nx_blt {b : Blt} {m : Bool} {vs : List D} {S : Store} : NoExc (bltV b m vs S) := by
  unfold bltV
  split <;> (first | unfold lenV | unfold absV | unfold intV | unfold listV | unfold tupleV | unfold sortedV | unfold sortsetV | unfold allV | unfold anyV | unfold sumV | unfold max2V | unfold min2V | unfold isTV | unfold lrng1V | unfold lrng2V | unfold keysV | skip)
  all_goals repeat' split
  all_goals first | exact nx_ok | exact nx_bad | exact nx_mkL | (intro _ _ _ h; cases h)
theorem nx_mth {k : Mth} {o : D} {vs : List D} {S : Store} : NoExc (mthV k o vs S) := by
  unfold mthV onL
  split <;> (first | unfold appendV | unfold removeV | unfold popAtV | unfold popV | unfold extendV | unfold indexV | skip)
  all_goals repeat' split
  all_goals first | exact nx_ok | exact nx_bad

variable {X : Cx} {a b c e : Expr} {xa xb xc : Ex} {pos : Pos} {m : Bool}
theorem e_bin {o : Operator} (ha : PE X a (tE X.kw T F W xa)) (hb : PE X b (tE X.kw T F W xb)) : PE X (.BinOp a o b pos) (tE X.kw T F W (.bin o m xa xb)) := by
  refine PE_imp (pe_op (op_bin o m) ha hb) fun σ H Q ⟨μ, S, env, rs, re, h⟩ => ?_
  refine ⟨μ, S, env, rs, re, (Post.bind h).mono fun x H1 ⟨μ1, d, S1, rs1, e1, r1, h1⟩ => ?_⟩
  refine ⟨μ1, S1, env, rs1, re.mono e1, (Post.bind h1).mono fun y H2 ⟨μ2, d2, S2, rs2, e2, r2, h2⟩ => ?_⟩
  obtain ⟨z, S', ez, q⟩ := h2.ok_of nx_bin
  exact ⟨μ2, S2, d, d2, z, S', rs2, e2.mono _ _ r1, r2, ez, q⟩
theorem e_cmp {o : CmpOp} (hu : X.A.units + 200 < cLine) (hm : behindInMarks o b = false) (ha : PE X a (tE X.kw T F W xa)) (hb : PE X b (tE X.kw T F W xb)) : PE X (.Compare a [o] [b] pos) (tE X.kw T F W (.cmp o xa xb)) := by
  refine PE_imp (pe_cmpR (op_cmp o hu) ha hb hm) fun σ H Q ⟨μ, S, env, rs, re, h⟩ => ?_
  refine ⟨μ, S, env, rs, re, (Post.bind h).mono fun x H1 ⟨μ1, d, S1, rs1, e1, r1, h1⟩ => ?_⟩
  refine ⟨μ1, S1, env, rs1, re.mono e1, (Post.bind h1).mono fun y H2 ⟨μ2, d2, S2, rs2, e2, r2, h2⟩ => ?_⟩
  obtain ⟨z, S', ez, q⟩ := h2.ok_of nx_cmp
  exact ⟨μ2, S2, d, d2, z, S', rs2, e2.mono _ _ r1, r2, ez, q⟩

/-! ### tests -/
theorem test_bind {β : Type} (r : Res D) (f : Bool → Store → Res β) : r.test f = (r.test .ok).bind f := by
  cases r with
  | ok d S =>
    simp only [Res.test, Res.bind_ok]
    cases asBool d <;> rfl
  | exc c d S => rfl
  | bad => rfl
theorem bind_bind {α β γ : Type} (r : Res α) (f : α → Store → Res β) (g : β → Store → Res γ) : (r.bind f).bind g = r.bind fun a S => (f a S).bind g := by cases r <;> rfl
theorem bool_of {K : KW} {μ : Mu} {H : Hp} {z : V} {d : D} {b : Bool} (r : Rep K μ H z d) (h : asBool d = some b) : z = .bl b := by
  cases r <;> simp [asBool] at h
  subst h
  rfl
theorem Post.test {K : KW} {T : Tb} {μ : Mu} {H : Hp} {Q : Bool → Hp → Prop} {E : XK} {r : Res D} (h : Post K T μ H RB Q E (r.test .ok)) : Post K T μ H (RV K) (fun x H1 => ∃ k, x = .bl k ∧ Q k H1) E r := by
  cases r with
  | ok d S =>
    simp only [Res.test, Res.bind_ok] at h
    intro z μ' H' h1 h2 h3
    cases hb : asBool d with
    | none => rw [hb] at h; exact h.elim
    | some k =>
      rw [hb] at h
      exact ⟨k, bool_of h3 hb, h k μ' H' h1 h2 rfl⟩
  | exc c d S => exact h
  | bad => exact h
/-- the reading of a test by its value's -/
theorem tT_tE {σ : L2.St} {H : Hp} {Q : Bool → Hp → Prop} {x : Ex} (h : tT K T F W x σ H Q) : tE K T F W x σ H fun z H1 => ∃ k, z = .bl k ∧ Q k H1 :=
  let ⟨μ, S, env, rs, re, h⟩ := h
  ⟨μ, S, env, rs, re, h.test⟩
theorem t_val {e : Expr} {x : Ex} (h : PE X e (tE X.kw T F W x)) (he : ∀ whole, isTrue e X.env whole = (do let v ← whole; standAt e.pos; holding [v] (truthy v))) : PT X e (tT X.kw T F W x) :=
  PT_imp (pt_val h he) fun σ H Q h => tT_tE h
theorem imp_cmp {o : CmpOp} {σ : L2.St} {H : Hp} {Q : VK} (h : tE K T F W (.cmp o xa xb) σ H Q) : tOp (rOp K (cmpV o)) (tE K T F W xa) (tE K T F W xb) σ H Q := by
  obtain ⟨μ, S, env, rs, re, h⟩ := h
  refine ⟨μ, S, env, rs, re, (Post.bind h).mono fun x H1 ⟨μ1, d, S1, rs1, e1, r1, h1⟩ => ?_⟩
  refine ⟨μ1, S1, env, rs1, re.mono e1, (Post.bind h1).mono fun y H2 ⟨μ2, d2, S2, rs2, e2, r2, h2⟩ => ?_⟩
  obtain ⟨z, S', ez, q⟩ := h2.ok_of nx_cmp
  exact ⟨μ2, S2, d, d2, z, S', rs2, e2.mono _ _ r1, r2, ez, q⟩
theorem t_cmp {o : CmpOp} (hu : X.A.units + 200 < cLine) (hm : behindInMarks o b = false) (ha : PE X a (tE X.kw T F W xa)) (hb : PE X b (tE X.kw T F W xb)) : PT X (.Compare a [o] [b] pos) (tT X.kw T F W (.cmp o xa xb)) :=
  PT_imp (pt_cmpR (op_cmp o hu) ha hb hm) fun σ H Q h => imp_cmp (tT_tE h)
theorem imp_chain {o o' : CmpOp} {σ : L2.St} {H : Hp} {Q : VK} (h : tE K T F W (.chain o o' xa xb xc) σ H Q) : tChain (rOp K (cmpV o)) (rOp K (cmpV o')) (tE K T F W xa) (tE K T F W xb) (tE K T F W xc) σ H Q := by
  obtain ⟨μ, S, env, rs, re, h⟩ := h
  refine ⟨μ, S, env, rs, re, (Post.bind h).mono fun x H1 ⟨μ1, d, S1, rs1, e1, r1, h1⟩ => ?_⟩
  refine ⟨μ1, S1, env, rs1, re.mono e1, (Post.bind h1).mono fun y H2 ⟨μ2, d2, S2, rs2, e2, r2, h2⟩ => ?_⟩
  rw [test_bind] at h2
  cases hc : cmpV o d d2 S2 with
  | exc c d' S' => exact absurd hc (nx_cmp c d' S')
  | bad => rw [hc] at h2; exact h2.elim
  | ok k S3 =>
    rw [hc] at h2
    refine ⟨μ2, S2, d, d2, k, S3, rs2, e2.mono _ _ r1, r2, hc, fun z μ3 H3 rs3 e3 r3 => ?_⟩
    simp only [Res.test, Res.bind_ok] at h2
    cases hb : asBool k with
    | none => rw [hb] at h2; exact h2.elim
    | some q =>
      rw [hb] at h2
      refine ⟨q, bool_of r3 hb, ?_⟩
      simp only [Res.bind_ok] at h2
      cases q with
      | true =>
        simp only [if_true] at h2 ⊢
        refine ⟨μ3, S3, env, rs3, ((re.mono e1).mono e2).mono e3, (Post.bind (Post.ext h2 e3)).mono fun w H4 ⟨μ4, d4, S4, rs4, e4, r4, h4⟩ => ?_⟩
        obtain ⟨z', S', ez, q'⟩ := h4.ok_of nx_cmp
        exact ⟨μ4, S4, d2, d4, z', S', rs4, e4.mono _ _ (e3.mono _ _ r2), r4, ez, q'⟩
      | false =>
        exact h2 (.bl false) μ3 H3 rs3 e3 (.bl false)
theorem e_chain {o o' : CmpOp} (hu : X.A.units + 200 < cLine) (hm : lastMarks [o, o'] [b, c] = false) (ha : PE X a (tE X.kw T F W xa)) (hb : PE X b (tE X.kw T F W xb)) (hc : PE X c (tE X.kw T F W xc)) : PE X (.Compare a [o, o'] [b, c] pos) (tE X.kw T F W (.chain o o' xa xb xc)) :=
  PE_imp (pe_chain (op_cmp o hu) (op_cmp o' hu) ha hb hc hm) fun σ H Q h => imp_chain h
theorem t_chain {o o' : CmpOp} (hu : X.A.units + 200 < cLine) (hm : lastMarks [o, o'] [b, c] = false) (ha : PE X a (tE X.kw T F W xa)) (hb : PE X b (tE X.kw T F W xb)) (hc : PE X c (tE X.kw T F W xc)) : PT X (.Compare a [o, o'] [b, c] pos) (tT X.kw T F W (.chain o o' xa xb xc)) :=
  PT_imp (pt_chain (op_cmp o hu) (op_cmp o' hu) ha hb hc hm) fun σ H Q h => imp_chain (tT_tE h)
/-! ### and, or, not, if -/
theorem ev_and {env : Env} {S : Store} : ev F (.and xa xb) env S = (evT F xa env S).bind fun k S1 => if k = true then ev F xb env S1 else .ok (.bool false) S1 := by
  show Res.test _ _ = _
  rw [test_bind]; rfl
theorem ev_or {env : Env} {S : Store} : ev F (.or xa xb) env S = (evT F xa env S).bind fun k S1 => if k = true then .ok (.bool true) S1 else ev F xb env S1 := by
  show Res.test _ _ = _
  rw [test_bind]; rfl
theorem ev_not {env : Env} {S : Store} : ev F (.not xa) env S = (evT F xa env S).bind fun k S1 => .ok (.bool (!k)) S1 := by
  show Res.test _ _ = _
  rw [test_bind]; rfl
theorem ev_ite {env : Env} {S : Store} : ev F (.ite xa xb xc) env S = (evT F xa env S).bind fun k S1 => if k = true then ev F xb env S1 else ev F xc env S1 := by
  show Res.test _ _ = _
  rw [test_bind]; rfl
theorem evT_eq {x : Ex} {env : Env} {S : Store} : evT F x env S = (ev F x env S).bind fun d S' => match asBool d with | some b => .ok b S' | none => .bad := rfl
variable {rest : List Expr}
theorem t_and (ha : PT X a (tT X.kw T F W xa)) (hb : PW X (.BoolOp .And (b :: rest) pos) (tT X.kw T F W xb)) : PW X (.BoolOp .And (a :: b :: rest) pos) (tT X.kw T F W (.and xa xb)) := by
  refine ⟨fun wh pins s σ H Q I hw => (pw_and ha hb).run wh pins s σ H Q I ?_⟩
  obtain ⟨μ, S, env, rs, re, h⟩ := hw
  rw [evT_eq, ev_and, bind_bind] at h
  refine ⟨μ, S, env, rs, re, (Post.bind h).mono fun k H1 ⟨μ1, k', S1, rs1, e1, r1, h1⟩ => ?_⟩
  cases (show k = k' from r1)
  cases k with
  | true => exact ⟨μ1, S1, env, rs1, re.mono e1, h1⟩
  | false => exact h1 false μ1 H1 rs1 .refl rfl
theorem t_or (ha : PT X a (tT X.kw T F W xa)) (hb : PW X (.BoolOp .Or (b :: rest) pos) (tT X.kw T F W xb)) : PW X (.BoolOp .Or (a :: b :: rest) pos) (tT X.kw T F W (.or xa xb)) := by
  refine ⟨fun wh pins s σ H Q I hw => (pw_or ha hb).run wh pins s σ H Q I ?_⟩
  obtain ⟨μ, S, env, rs, re, h⟩ := hw
  rw [evT_eq, ev_or, bind_bind] at h
  refine ⟨μ, S, env, rs, re, (Post.bind h).mono fun k H1 ⟨μ1, k', S1, rs1, e1, r1, h1⟩ => ?_⟩
  cases (show k = k' from r1)
  cases k with
  | false => exact ⟨μ1, S1, env, rs1, re.mono e1, h1⟩
  | true => exact h1 true μ1 H1 rs1 .refl rfl
theorem e_and (ha : PE X a (tE X.kw T F W xa)) (hb : PE X (.BoolOp .And (b :: rest) pos) (tE X.kw T F W xb)) : PE X (.BoolOp .And (a :: b :: rest) pos) (tE X.kw T F W (.and xa xb)) := by
  refine PE_imp (pe_and ha hb) fun σ H Q ⟨μ, S, env, rs, re, h⟩ => ?_
  rw [ev_and] at h
  refine ⟨μ, S, env, rs, re, (Post.test (Post.bind (R' := RB) h)).mono fun x H1 ⟨k, hx, μ1, k', S1, rs1, e1, r1, h1⟩ => ⟨k, hx, ?_⟩⟩
  cases (show k = k' from r1)
  cases k with
  | true => exact ⟨μ1, S1, env, rs1, re.mono e1, h1⟩
  | false => exact h1 (.bl false) μ1 H1 rs1 .refl (.bl false)
theorem e_or (ha : PE X a (tE X.kw T F W xa)) (hb : PE X (.BoolOp .Or (b :: rest) pos) (tE X.kw T F W xb)) : PE X (.BoolOp .Or (a :: b :: rest) pos) (tE X.kw T F W (.or xa xb)) := by
  refine PE_imp (pe_or ha hb) fun σ H Q ⟨μ, S, env, rs, re, h⟩ => ?_
  rw [ev_or] at h
  refine ⟨μ, S, env, rs, re, (Post.test (Post.bind (R' := RB) h)).mono fun x H1 ⟨k, hx, μ1, k', S1, rs1, e1, r1, h1⟩ => ⟨k, hx, ?_⟩⟩
  cases (show k = k' from r1)
  cases k with
  | false => exact ⟨μ1, S1, env, rs1, re.mono e1, h1⟩
  | true => exact h1 (.bl true) μ1 H1 rs1 .refl (.bl true)
theorem e_not (ha : PE X a (tE X.kw T F W xa)) : PE X (.UnaryOp .Not a pos) (tE X.kw T F W (.not xa)) := by
  refine PE_imp (pe_not ha) fun σ H Q ⟨μ, S, env, rs, re, h⟩ => ?_
  rw [ev_not] at h
  refine ⟨μ, S, env, rs, re, (Post.test (Post.bind (R' := RB) h)).mono fun x H1 ⟨k, hx, μ1, k', S1, rs1, e1, r1, h1⟩ => ⟨k, hx, ?_⟩⟩
  cases (show k = k' from r1)
  exact h1 (.bl _) μ1 H1 rs1 .refl (.bl _)
theorem t_not (ha : PT X a (tT X.kw T F W xa)) : PT X (.UnaryOp .Not a pos) (tT X.kw T F W (.not xa)) := by
  refine PT_imp (pt_not ha) fun σ H Q ⟨μ, S, env, rs, re, h⟩ => ?_
  rw [evT_eq, ev_not, bind_bind] at h
  refine ⟨μ, S, env, rs, re, (Post.bind h).mono fun k H1 ⟨μ1, k', S1, rs1, e1, r1, h1⟩ => ?_⟩
  cases (show k = k' from r1)
  exact h1 _ μ1 H1 rs1 .refl rfl
theorem e_ite (ha : PT X a (tT X.kw T F W xa)) (hb : PE X b (tE X.kw T F W xb)) (hc : PE X c (tE X.kw T F W xc)) : PE X (.IfExp a b c pos) (tE X.kw T F W (.ite xa xb xc)) := by
  refine PE_imp (pe_ifExp ha hb hc) fun σ H Q ⟨μ, S, env, rs, re, h⟩ => ?_
  rw [ev_ite] at h
  refine ⟨μ, S, env, rs, re, (Post.bind h).mono fun k H1 ⟨μ1, k', S1, rs1, e1, r1, h1⟩ => ?_⟩
  cases (show k = k' from r1)
  cases k with
  | true => exact ⟨μ1, S1, env, rs1, re.mono e1, h1⟩
  | false => exact ⟨μ1, S1, env, rs1, re.mono e1, h1⟩
theorem t_ite (ha : PT X a (tT X.kw T F W xa)) (hb : PT X b (tT X.kw T F W xb)) (hc : PT X c (tT X.kw T F W xc)) : PT X (.IfExp a b c pos) (tT X.kw T F W (.ite xa xb xc)) := by
  refine ⟨fun pins s σ H Q I ⟨μ, S, env, rs, re, h⟩ => ?_⟩
  rw [evT_eq, ev_ite, bind_bind] at h
  have h0 := ha.run pins s σ H (fun k H1 => ∃ μ1 k' S1, RelS X.kw μ1 S1 H1 ∧ Ext X.kw μ H μ1 H1 ∧ RB μ1 H1 k k' ∧ Post X.kw T μ1 H1 RB Q (fun c o H' => W c o σ H') (Res.bind (if k' = true then ev F xb env S1 else ev F xc env S1) fun d S' => match asBool d with | some b => .ok b S' | none => .bad)) I ⟨μ, S, env, rs, re, Post.bind h⟩
  have e : ∀ wh, isTrue (.IfExp a b c pos) X.env wh = (do if ← isTrue a X.env (eval a X.env) then isTrue b X.env (eval b X.env) else isTrue c X.env (eval c X.env)) := fun _ => rfl
  rw [e]
  refine wpAny_bind (thn h0 fun k s1 ⟨H1, I1, μ1, k', S1, rs1, e1, r1, h1⟩ => ?_)
  cases (show k = k' from r1)
  cases k with
  | true => exact hb.run pins s1 σ H1 Q I1 ⟨μ1, S1, env, rs1, re.mono e1, h1⟩
  | false => exact hc.run pins s1 σ H1 Q I1 ⟨μ1, S1, env, rs1, re.mono e1, h1⟩
end
end DL

set_option linter.all false
set_option maxRecDepth 100000
/-! DL.Dict: dicts whose keys are rows. -/
namespace DL
open PySem L2 PySem.Spec PyProof.Rows
/-! ### keys -/
mutual
theorem toKey_inj : ∀ {a b : D} {k : NestedKey}, toKey a = some k → toKey b = some k → a = b
  | .none, b, k, h, g => by
    cases h
    cases b <;> simp [toKey] at g
    all_goals first | rfl | skip
  | .int i, b, k, h, g => by
    cases h
    cases b <;> simp [toKey] at g
    rw [g]
  | .str x, b, k, h, g => by
    cases h
    cases b <;> simp [toKey] at g
    rw [g]
  | .tuple xs, b, k, h, g => by
    simp only [toKey, Option.map_eq_some_iff] at h
    obtain ⟨ks, h1, rfl⟩ := h
    cases b <;> simp [toKey] at g
    rw [toKeyL_inj h1 g]
  | .bool _, _, _, h, _ => by simp [toKey] at h
  | .list _, _, _, h, _ => by simp [toKey] at h
  | .dict _, _, _, h, _ => by simp [toKey] at h
theorem toKeyL_inj : ∀ {a b : List D} {k : List NestedKey}, toKeyL a = some k → toKeyL b = some k → a = b
  | [], b, k, h, g => by
    cases h
    cases b with
    | nil => rfl
    | cons x r =>
      simp only [toKeyL] at g
      split at g <;> cases g
  | x :: r, b, k, h, g => by
    simp only [toKeyL] at h
    split at h
    · rename_i k1 ks e1 e2
      cases h
      cases b with
      | nil => cases g
      | cons y s =>
        simp only [toKeyL] at g
        split at g
        · rename_i k2 ks2 f1 f2
          cases g
          rw [toKey_inj e1 f1, toKeyL_inj e2 f2]
        · cases g
    · cases h
end
mutual
theorem toKey_dep : ∀ {a : D} {k : NestedKey}, toKey a = some k → k.depth = keyDep a
  | .none, _, h => by cases h; rfl
  | .int i, _, h => by cases h; rfl
  | .str x, _, h => by cases h; rfl
  | .tuple xs, _, h => by
    simp only [toKey, Option.map_eq_some_iff] at h
    obtain ⟨ks, h1, rfl⟩ := h
    simp only [NestedKey.depth, keyDep, toKeyL_dep h1]
  | .bool _, _, h => by simp [toKey] at h
  | .list _, _, h => by simp [toKey] at h
  | .dict _, _, h => by simp [toKey] at h
theorem toKeyL_dep : ∀ {a : List D} {k : List NestedKey}, toKeyL a = some k → NestedKey.depthAll k = keyDepL a
  | [], _, h => by cases h; rfl
  | x :: r, _, h => by
    simp only [toKeyL] at h
    split at h
    · rename_i k1 ks e1 e2
      cases h
      simp only [NestedKey.depthAll, keyDepL, toKey_dep e1, toKeyL_dep e2]
    · cases h
end
mutual
theorem toKey_of : ∀ {a : D}, keyOk a = true → ∃ k, toKey a = some k
  | .none, _ => ⟨_, rfl⟩
  | .int i, _ => ⟨_, rfl⟩
  | .str x, _ => ⟨_, rfl⟩
  | .tuple xs, h => by
    obtain ⟨ks, e⟩ := toKeyL_of (a := xs) (by simpa [keyOk] using h)
    exact ⟨.tup ks, by simp [toKey, e]⟩
  | .bool _, h => by simp [keyOk] at h
  | .list _, h => by simp [keyOk] at h
  | .dict _, h => by simp [keyOk] at h
theorem toKeyL_of : ∀ {a : List D}, keyOkL a = true → ∃ k, toKeyL a = some k
  | [], _ => ⟨_, rfl⟩
  | x :: r, h => by
    simp only [keyOkL, Bool.and_eq_true] at h
    obtain ⟨k, e⟩ := toKey_of h.1
    obtain ⟨ks, es⟩ := toKeyL_of h.2
    exact ⟨k :: ks, by simp [toKeyL, e, es]⟩
end
section
variable {X : Cx} {pins : List (Addr × Obj)} {σ : L2.St} {H : Hp} {s : Shared} {μ : Mu}
mutual
/-- a key stands in the machine's heap -/
theorem rep_is (I : L2.Inv X pins σ H s) : ∀ (d : D) (v : V) (u : Value) (k : NestedKey), Rep X.kw μ H v d → RelV v u → toKey d = some k → NestedIs s.heap k u
  | .none, _, _, _, r, rv, e => by
    cases r; cases e
    cases rv
    exact .none
  | .int i, _, _, _, r, rv, e => by
    cases r; cases e
    obtain ⟨t, rfl⟩ := rv
    exact .int i t
  | .str x, _, _, _, r, rv, e => by
    cases r; cases e
    obtain ⟨t, rfl⟩ := rv
    exact .text x t
  | .tuple ds, _, _, _, r, rv, e => by
    simp only [toKey, Option.map_eq_some_iff] at e
    obtain ⟨ks, e1, rfl⟩ := e
    cases r with
    | tup t l =>
      cases rv
      obtain ⟨its, rvs, ⟨o, g, c, n, dd⟩, _⟩ := I.tuple t
      exact .tup g c dd (by simpa using rep_isL I ds _ _ ks l rvs e1)
  | .bool _, _, _, _, _, _, e => by simp [toKey] at e
  | .list _, _, _, _, _, _, e => by simp [toKey] at e
  | .dict _, _, _, _, _, _, e => by simp [toKey] at e
theorem rep_isL (I : L2.Inv X pins σ H s) : ∀ (ds : List D) (vs : List V) (us : List Value) (ks : List NestedKey), RepL X.kw μ H vs ds → Vals vs us → toKeyL ds = some ks → NestedAll s.heap ks us
  | [], _, _, _, r, rv, e => by
    cases r; cases e
    cases rv
    exact .nil
  | d :: ds, _, _, _, r, rv, e => by
    simp only [toKeyL] at e
    split at e
    · rename_i k1 ks e1 e2
      cases e
      cases r with
      | cons r1 r2 =>
        cases rv with
        | cons v1 v2 => exact .cons (rep_is I d _ _ k1 r1 v1 e1) (rep_isL I ds _ _ ks r2 v2 e2)
    · cases e
end
end
/-! ### d[k] = v -/
def storeL (xs : List (NestedKey × Addr × Value)) (k : NestedKey) (a : Addr) (v : Value) : List (NestedKey × Addr × Value) := match xs with
  | [] => [(k, a, v)]
  | (k1, a1, v1) :: r => if k1 = k then (k1, a1, v) :: r else (k1, a1, v1) :: storeL r k a v
theorem put_none {k : NestedKey} {v : Value} : ∀ {xs : List (NestedKey × Addr × Value)}, k ∉ xs.map (·.1) → xs.map (putAt k v) = xs
  | [], _ => rfl
  | (k1, a1, v1) :: r, h => by
    simp only [List.map_cons, List.mem_cons, not_or] at h
    rw [List.map_cons, put_none h.2]
    simp only [putAt]
    rw [if_neg (fun e => h.1 e.symm)]
theorem storeL_eq (k : NestedKey) (a : Addr) (v : Value) : ∀ {xs : List (NestedKey × Addr × Value)}, (xs.map (·.1)).Nodup → storedH xs k a v = storeL xs k a v
  | [], _ => rfl
  | (k1, a1, v1) :: r, h => by
    simp only [List.map_cons, List.nodup_cons] at h
    have ih := storeL_eq k a v (xs := r) h.2
    unfold storeL
    by_cases c : k1 = k
    · subst c
      rw [if_pos rfl]
      have : (atKey ((k1, a1, v1) :: r) k1).isSome = true := by simp [atKey]
      unfold storedH
      rw [if_pos this, List.map_cons, put_none h.1]
      simp [putAt]
    · rw [if_neg c, ← ih]
      have e : atKey ((k1, a1, v1) :: r) k = atKey r k := by simp [atKey, c]
      unfold storedH
      rw [e]
      split
      · simp [putAt, c]
      · rfl
theorem DRel.put {K : KW} {μ : Mu} {H : Hp} {k v : D} {nk : NestedKey} {a : Addr} {u : Value} {vv : V} (hk : toKey k = some nk) (hd : keyDep k ≤ 8) (r1 : Rep K μ H (.ref a) k) (rv : RelV vv u) (r2 : Rep K μ H vv v) :
    ∀ {kvs : List (D × D)} {xs : List (NestedKey × Addr × Value)}, DRel K μ H kvs xs → DRel K μ H (dput kvs k v) (storeL xs nk a u)
  | _, _, .nil => .cons hk hd r1 rv r2 .nil
  | _, _, .cons (k := k1) h1 h2 h3 h4 h5 h6 => by
    unfold dput storeL
    by_cases c : k1 = k
    · subst c
      rw [h1] at hk
      cases hk
      rw [beqD_refl, if_pos rfl, if_pos rfl]
      exact .cons h1 h2 h3 rv r2 h6
    · have c2 : beqD k1 k = false := by
        cases e : beqD k1 k with
        | false => rfl
        | true => exact absurd (beqD_eq e) c
      rw [c2, if_neg (by decide), if_neg (fun e => c (toKey_inj h1 (by rw [e]; exact hk)))]
      exact .cons h1 h2 h3 h4 h5 (DRel.put hk hd r1 rv r2 h6)
theorem storeL_len (k : NestedKey) (a : Addr) (v : Value) : ∀ xs : List (NestedKey × Addr × Value), (storeL xs k a v).length ≤ xs.length + 1
  | [] => Nat.le_refl _
  | (k1, a1, v1) :: r => by
    unfold storeL
    split
    · simp
    · have := storeL_len k a v r
      simp
      omega
theorem dPhi_at {w : World} {a : Addr} {xs : List (NestedKey × Addr × Value)} {h1 h2 : Heap} (x : dPhi w a xs h1) (k : ∀ o, h1.get? a = some o → h2.get? a = some o) : dPhi w a xs h2 := by
  obtain ⟨q1, q2, o, es, ep, q3, q4⟩ := x
  exact ⟨q1, q2, o, es, ep, k o q3, q4⟩
theorem dPhi_ok {P : Program} {w : World} {H : Hp} {h : Heap} {a : Addr} {xs : List (NestedKey × Addr × Value)} (x : dPhi w a xs h) : ObjOk P w H h a (.ext (dPhi w a xs)) :=
  ⟨x, let ⟨_, _, o, _, _, q, _⟩ := x; ⟨o, q⟩, fun _ _ y k => dPhi_at y k⟩
section
variable {X : Cx} {pos : Pos}
theorem pe_dnewX : PE X (.Dict [] [] pos) (fun _ H Q => ∀ p, H p = none → Q (.ref p) (upd H p (.ext (dPhi X.w p [])))) := ⟨fun pins s σ H Q I h =>
  wpAny_Dict_empty ⟨.ref s.heap.objs.size, _, I.laid (a := s.heap.objs.size) (o := .ext (dPhi X.w s.heap.objs.size [])) (t' := s.toks) (fun _ _ q => Heap.get?_push_of_some _ q) (Nat.le_refl _)
    (dPhi_ok ⟨Nat.zero_le _, beq_eq_false_iff_ne.mpr (Ne.symm (Nat.ne_of_lt I.big)), _, #[], 0, Heap.get?_push_size _ rfl, ⟨rfl, rfl, rfl⟩, rfl, rfl, List.nodup_nil⟩), rfl, h _ (I.hok.fresh (Nat.le_refl _))⟩⟩
def rSetD (X : Cx) : TSet := fun o i v H Q => ∃ (p a : Addr) (xs : List (NestedKey × Addr × Value)) (k : NestedKey) (d : D) (kvs : List (D × D)) (μ : Mu), o = .ref p ∧ i = .ref a ∧ H p = some (.ext (dPhi X.w p xs)) ∧ xs.length < 1000000 ∧ toKey d = some k ∧ keyDep d ≤ 8 ∧
  Rep X.kw μ H (.ref a) d ∧ DRel X.kw μ H kvs xs ∧ ∀ u, RelV v u → Q (upd H p (.ext (dPhi X.w p (storeL xs k a u))))
theorem drel_is {pins : List (Addr × Obj)} {σ : L2.St} {H : Hp} {s : Shared} {μ : Mu} (I : L2.Inv X pins σ H s) : ∀ {kvs : List (D × D)} {xs : List (NestedKey × Addr × Value)}, DRel X.kw μ H kvs xs → ∀ x ∈ xs, (nestedKind X.prog X.w).is s.heap x.1 x.2.1
  | _, _, .nil => fun x hx => nomatch hx
  | _, _, .cons h1 h2 h3 h4 h5 h6 => fun x hx => by
    rcases List.mem_cons.mp hx with rfl | hx
    · exact ⟨rep_is I _ _ _ _ h3 rfl h1, by rw [toKey_dep h1]; exact h2⟩
    · exact drel_is I h6 x hx
theorem set_dict (hu : X.A.units + 200 < cLine) : PSet X (rSetD X) := by
  intro pins s σ H o i v ov iv u Q I ro ri rv h
  obtain ⟨p, a, xs, k, d, kvs, μ, rfl, rfl, hp, hz, hk, hd, rk, dr, q⟩ := h
  cases ro
  cases ri
  obtain ⟨⟨l1, l2, o, es, ep, g, ed, dd, el, nd⟩, _, _⟩ := I.hok p _ hp
  have hm : s.heap.DictOfH (nestedKind X.prog X.w) p xs := ⟨o, es, ep, g, ed, dd, el, drel_is I dr, nd⟩
  refine wpAny_setItem_heap (knd := nestedKind X.prog X.w) (by show X.A.in1.units + 8 < cLine; show X.A.units + 1 + 8 < cLine; omega) ⟨rep_is I _ _ _ _ rk rfl hk, by rw [toKey_dep hk]; exact hd⟩ hm (fun h' hm' hs => ?_) l1
  obtain ⟨o2, es2, ep2, g2, ed2, dd2, el2, _, nd2⟩ := hm'
  rw [storeL_eq k a u nd] at el2 nd2
  have hl := storeL_len k a u xs
  refine ⟨_, I.write (x := p) (e := p) (o := .ext (dPhi X.w p (storeL xs k a u))) (by rw [hp]; exact True.intro) (.inl rfl) (fun b q hb z => (hs.2 b hb).trans z) ⟨_, g2⟩ (dPhi_ok ⟨by rw [sizeLine_eq]; omega, l2, o2, es2, ep2, g2, ed2, dd2, el2, nd2⟩), q u rv⟩
theorem PSet.or {t t' : TSet} (h : PSet X t) (h' : PSet X t') : PSet X (fun o i v H Q => t o i v H Q ∨ t' o i v H Q) := by
  intro pins s σ H o i v ov iv u Q I ro ri rv q
  rcases q with q | q
  · exact h pins s σ H o i v ov iv u Q I ro ri rv q
  · exact h' pins s σ H o i v ov iv u Q I ro ri rv q
/-- list(d) -/
def rKeysD (X : Cx) : List V → Hp → VK → Prop := fun vs H Q => ∃ (d : Addr) (xs : List (NestedKey × Addr × Value)), vs = [.ref d] ∧ H d = some (.ext (dPhi X.w d xs)) ∧ ∀ q, H q = none → Q (.ref q) (upd H q (.lst (xs.map fun x => V.ref x.2.1)))
theorem vals_keys : ∀ (xs : List (NestedKey × Addr × Value)), Vals (xs.map fun x => V.ref x.2.1) (xs.map fun x => Value.ref x.2.1)
  | [] => .nil
  | x :: r => .cons rfl (vals_keys r)
theorem cr_keys (hc : X.calm = true) : CallR X (.type "list") (rKeysD X) := by
  intro pins s σ H vs us Q I r h
  obtain ⟨d, xs, rfl, hd, q⟩ := h
  rw [Vals.ref1 r]
  obtain ⟨⟨l1, l2, o, es, ep, g, ed, dd, el, nd⟩, _, _⟩ := I.hok d _ hd
  have hsz : es.size = xs.length := by rw [← Array.length_toList, el, List.length_map]
  refine PySem.W.kdl_call (PySem.KdlSrc.rawDict (es := es) (ep := ep) l2) (I.ok.hd hc) ⟨o, g, ed, dd⟩ (by rw [hsz]; exact l1) fun h' tk acc c k1 k2 ⟨k3, k4⟩ => ?_
  have ea : acc.toList = xs.map fun x => Value.ref x.2.1 := by
    refine List.ext_getElem? fun i => ?_
    rw [Array.getElem?_toList, List.getElem?_map]
    by_cases hi : i < xs.length
    · have hi2 : i < acc.size := by rw [k3, hsz]; exact hi
      obtain ⟨h1, h2⟩ := k4 i acc[i] (by simp [hi2])
      rw [Array.getElem?_eq_getElem hi2, h2, List.getElem?_eq_getElem hi]
      have h3 : es.toList[i]? = some ⟨xs[i].1.hash X.w, .ref xs[i].2.1, xs[i].2.2⟩ := by rw [el, List.getElem?_map, List.getElem?_eq_getElem hi]; rfl
      rw [Array.getElem?_toList, Array.getElem?_eq_getElem h1] at h3
      simp only [Option.some.injEq] at h3
      simp [h3]
    · rw [Array.getElem?_eq_none (by rw [k3, hsz]; omega), List.getElem?_eq_none (by omega)]
      rfl
  have new : ObjOk X.prog X.w (upd H s.heap.objs.size (.lst (xs.map fun x => V.ref x.2.1))) h' s.heap.objs.size (.lst (xs.map fun x => V.ref x.2.1)) :=
    ⟨by rw [List.length_map]; exact l1, acc.toList, c, by rw [ea]; exact vals_keys xs, by simpa using k2⟩
  exact ⟨.ref _, _, I.laid k1 (Nat.le_refl _) new, rfl, q _ (I.hok.fresh (Nat.le_refl _))⟩
theorem dct_of {K : KW} {μ : Mu} {H : Hp} {S : Store} {x : V} {o : D} {n : Nat} {kvs : List (D × D)} (rs : RelS K μ S H) (r : Rep K μ H x o) (hn : locOf o = some n) (hx : atK S n = some kvs) :
    ∃ a xs, x = .ref a ∧ μ.pl[n]? = some a ∧ H a = some (.ext (dPhi K.w a xs)) ∧ DRel K μ H kvs xs := by
  cases r with
  | rf h1 =>
    simp [locOf] at hn
    subst hn
    obtain ⟨a, xs, e1, e2, e3⟩ := rs.dct_at hx
    rw [h1] at e1
    cases e1
    exact ⟨_, xs, rfl, h1, e2, e3⟩
  | _ => simp [locOf] at hn
theorem call_keysD {m : Bool} (hc : X.calm = true) : CallR X (.type "list") (rC X.kw (bltV .keys m)) := by
  intro pins s σ H xs us Q I r ⟨μ, S, ds, d, S', rs, rl, e, q⟩
  have e : keysV m ds S = .ok d S' := e
  unfold keysV at e
  split at e
  · rename_i a S0
    obtain ⟨x, rfl, rx⟩ := rl.one
    split at e
    · rename_i n hn
      split at e
      · rename_i kvs hk
        obtain ⟨p, ys, rfl, h1, h2, h3⟩ := dct_of rs rx hn hk
        exact cr_keys hc pins s σ H _ us Q I r ⟨p, ys, rfl, h2, (mk_ok rs h3.keys e q).2⟩
      · cases e
    · cases e
  · cases e
theorem e_dct0 {T : Tb} {F : FS} {W : WX} : PE X (.Dict [] [] pos) (tE X.kw T F W .dct0) := by
  refine PE_imp pe_dnewX fun σ H Q ⟨μ, S, env, rs, re, h⟩ p hp => ?_
  have h : Post X.kw T μ H (RV X.kw) Q (fun c o H' => W c o σ H') (.ok (rf S.length) (S ++ [.dct []])) := h
  obtain ⟨k1, k2, k3⟩ := rs.placeK hp
  exact h _ _ _ k1 k2 k3
end
end DL

set_option linter.all false
/-! DL.PE2: names, displays, subscripts, calls, methods. -/
namespace DL
open PySem L2
section
variable {K : KW} {T : Tb} {F : FS} {W : WX} {X : Cx} {a b c e : Expr} {xa xb xc : Ex} {pos : Pos} {m : Bool}
theorem e_var {i : Nat} {x : Str} (hN : X.N[i]? = some x) (hv : Vis X.env.scope x) (hd : (x == ("__debug__" : Str)) = false) (hcd : (x == ("__classdict__" : Str)) = false) : PE X (.Name x pos) (tE X.kw T F W (.v i)) := by
  refine PE_imp (pe_var hN hv hd hcd) fun σ H Q ⟨μ, S, env, rs, re, h⟩ => ?_
  simp only [ev] at h
  split at h
  · rename_i d hi
    obtain ⟨v, e1, r1⟩ := re.at_ i d hi
    exact ⟨v, e1, h v μ H rs .refl r1⟩
  · exact h.elim
/-- a constant, whatever the rule -/
theorem e_const {d : D} {v : V} (h : PE X e (fun _ H Q => Q v H)) (r : ∀ μ H, Rep X.kw μ H v d) : PE X e (tE X.kw T F W (.c d)) :=
  PE_imp h fun σ H Q ⟨μ, S, env, rs, re, h⟩ => h v μ H rs .refl (r μ H)
theorem e_neg (ha : PE X a (tE X.kw T F W xa)) : PE X (.UnaryOp .USub a pos) (tE X.kw T F W (.neg xa)) := by
  refine PE_imp (pe_un un_neg ha) fun σ H Q ⟨μ, S, env, rs, re, h⟩ => ?_
  refine ⟨μ, S, env, rs, re, (Post.bind h).mono fun x H1 ⟨μ1, d, S1, rs1, e1, r1, h1⟩ => ?_⟩
  split at h1
  · cases r1
    exact ⟨_, rfl, h1 (.int _) μ1 H1 rs1 .refl (.int _)⟩
  · exact h1.elim
/-! ### argument lists -/
def notStar : Expr → Bool
  | .Starred _ _ => false
  | _ => true
theorem star_cons {es : List Expr} {env : PySem.Env} (h : notStar e = true) : starEach (e :: es) env = (false, eval e env) :: starEach es env := by
  cases e <;> first | rfl | (simp [notStar] at h)
theorem star_none {p : Pos} {env : PySem.Env} : ∀ {es : List Expr}, es.all notStar = true → (backTo p (starEach es env)).any (·.1) = false
  | [], _ => rfl
  | e :: es, h => by
    simp only [List.all_cons, Bool.and_eq_true] at h
    rw [star_cons h.1]
    show (backTo p ((false, eval e env) :: starEach es env)).any (·.1) = false
    unfold backTo
    simp only [List.map_cons, List.any_cons, Bool.false_or]
    exact star_none h.2
theorem star_all {p : Pos} {env : PySem.Env} : ∀ {es : List Expr}, es.all notStar = true → (backTo p (starEach es env)).all (fun x => !x.1) = true
  | [], _ => rfl
  | e :: es, h => by
    simp only [List.all_cons, Bool.and_eq_true] at h
    rw [star_cons h.1]
    unfold backTo
    simp only [List.map_cons, List.all_cons, Bool.not_false, Bool.true_and]
    exact star_all h.2
theorem es_nil : PA X [] (tEs X.kw T F W []) :=
  PA_imp pa_nil fun σ H Q ⟨μ, S, env, rs, re, h⟩ => h [] μ H rs .refl .nil
theorem es_cons {es : List Expr} {l : List Ex} (hn : notStar e = true) (ha : PE X e (tE X.kw T F W xa)) (hr : PA X es (tEs X.kw T F W l)) : PA X (e :: es) (tEs X.kw T F W (xa :: l)) := by
  refine PA_imp (pa_cons ha hr (star_cons hn)) fun σ H Q ⟨μ, S, env, rs, re, h⟩ => ?_
  refine ⟨μ, S, env, rs, re, (Post.bind h).mono fun x H1 ⟨μ1, d, S1, rs1, e1, r1, h1⟩ => ?_⟩
  refine ⟨μ1, S1, env, rs1, re.mono e1, (Post.bind h1).mono fun xs H2 ⟨μ2, ds, S2, rs2, e2, r2, h2⟩ => ?_⟩
  exact h2 (x :: xs) μ2 H2 rs2 .refl (.cons (e2.mono _ _ r1) r2)
/-! ### displays -/
theorem e_tup {es : List Expr} {l : List Ex} {k : Nat} (h : PA X es (tEs X.kw T F W l)) : PE X (.Tuple es k pos) (tE X.kw T F W (.tup l)) := by
  refine PE_imp (pe_tup h) fun σ H Q ⟨μ, S, env, rs, re, h⟩ => ?_
  refine ⟨μ, S, env, rs, re, (Post.bind h).mono fun xs H1 ⟨μ1, ds, S1, rs1, e1, r1, h1⟩ => ?_⟩
  obtain ⟨z, S', ez, q⟩ := h1.ok_of nx_mkT
  exact mkT_ok rs1 r1 ez q
theorem e_lst {es : List Expr} {l : List Ex} (h : PA X es (tEs X.kw T F W l)) : PE X (.List es pos) (tE X.kw T F W (.lst m l)) := by
  refine PE_imp (pe_lst h) fun σ H Q ⟨μ, S, env, rs, re, h⟩ => ?_
  refine ⟨μ, S, env, rs, re, (Post.bind h).mono fun xs H1 ⟨μ1, ds, S1, rs1, e1, r1, h1⟩ => ?_⟩
  obtain ⟨z, S', ez, q⟩ := h1.ok_of nx_mkL
  exact mk_ok rs1 r1 ez q
/-! ### subscripts -/
def notSlice : Expr → Bool
  | .Slice .. => false
  | _ => true
theorem plainIx_of (h : notSlice b = true) : PlainIx b := by
  intro o i
  cases b <;> first | rfl | (simp [notSlice] at h)
theorem e_sub (hs : notSlice b = true) (ha : PE X a (tE X.kw T F W xa)) (hb : PE X b (tE X.kw T F W xb)) : PE X (.Subscript a b pos) (tE X.kw T F W (.sub xa xb)) := by
  refine PE_imp (pe_ix ix_seqD ha hb (plainIx_of hs)) fun σ H Q ⟨μ, S, env, rs, re, h⟩ => ?_
  refine ⟨μ, S, env, rs, re, (Post.bind h).mono fun x H1 ⟨μ1, d, S1, rs1, e1, r1, h1⟩ => ?_⟩
  refine ⟨μ1, S1, env, rs1, re.mono e1, (Post.bind h1).mono fun y H2 ⟨μ2, d2, S2, rs2, e2, r2, h2⟩ => ?_⟩
  obtain ⟨z, S', ez, q⟩ := h2.ok_of nx_sub
  exact ⟨μ2, S2, d, d2, z, S', rs2, e2.mono _ _ r1, r2, ez, q⟩
/-- a bound of a slice -/
def tO (K : KW) (T : Tb) (F : FS) (W : WX) (x : Ex) : TO := fun σ H Q => ∃ μ S env, RelS K μ S H ∧ RelE K μ H env σ ∧ Post K T μ H (fun _ _ (o o' : Option Int) => o = o') Q (fun c o H' => W c o σ H') (Res.bnd (isAbs x) (ev F x env S))
theorem PO_imp {o : Option Expr} {t t' : TO} (h : PO X o t) (i : ∀ σ H Q, t' σ H Q → t σ H Q) : PO X o t' := ⟨fun pins s σ H Q I hw => h.run pins s σ H Q I (i σ H Q hw)⟩
theorem o_none : PO X none (tO X.kw T F W (.c .none)) :=
  PO_imp po_none fun σ H Q ⟨μ, S, env, rs, re, h⟩ => h none μ H rs .refl rfl
theorem o_some {x : Ex} (hx : isAbs x = false) (ha : PE X a (tE X.kw T F W x)) : PO X (some a) (tO X.kw T F W x) := by
  refine PO_imp (po_some ha) fun σ H Q ⟨μ, S, env, rs, re, h⟩ => ⟨μ, S, env, rs, re, ?_⟩
  cases hr : ev F x env S with
  | exc c d S' => rw [hr] at h; exact h
  | bad => rw [hr] at h; exact h
  | ok d S' =>
    rw [hr, hx] at h
    simp only [Res.bnd, Res.bind_ok] at h
    intro z μ' H' h1 h2 h3
    cases h3 with
    | int i => exact ⟨i, rfl, h (some i) μ' H' h1 h2 rfl⟩
    | _ => exact h.elim
theorem e_slc {lo hi : Option Expr} {xl xh : Ex} {p2 : Pos} (ha : PE X a (tE X.kw T F W xa)) (hl : PO X lo (tO X.kw T F W xl)) (hh : PO X hi (tO X.kw T F W xh)) : PE X (.Subscript a (.Slice lo hi none p2) pos) (tE X.kw T F W (.slc m xa xl xh)) := by
  refine PE_imp (pe_slice (sl_D m) ha hl hh) fun σ H Q ⟨μ, S, env, rs, re, h⟩ => ?_
  refine ⟨μ, S, env, rs, re, (Post.bind h).mono fun x H1 ⟨μ1, d, S1, rs1, e1, r1, h1⟩ => ?_⟩
  refine ⟨μ1, S1, env, rs1, re.mono e1, (Post.bind h1).mono fun l H2 ⟨μ2, l', S2, rs2, e2, r2, h2⟩ => ?_⟩
  cases r2
  refine ⟨μ2, S2, env, rs2, (re.mono e1).mono e2, (Post.bind h2).mono fun u H3 ⟨μ3, u', S3, rs3, e3, r3, h3⟩ => ?_⟩
  cases r3
  obtain ⟨z, S', ez, q⟩ := h3.ok_of nx_slc
  exact ⟨μ3, S3, d, z, S', rs3, e3.mono _ _ (e2.mono _ _ r1), ez, q⟩

/-! ### built-ins called -/
/-- the name of a built-in, and whether it is a class -/
def bltId : Blt → Option (String × Bool)
  | .len => some ("len", false)
  | .abs => some ("abs", false)
  | .int => some ("int", true)
  | .list => some ("list", true)
  | .keys => some ("list", true)
  | .tuple => some ("tuple", true)
  | .sorted => some ("sorted", false)
  | .all => some ("all", false)
  | .any => some ("any", false)
  | .sum => some ("sum", false)
  | .max2 => some ("max", false)
  | .min2 => some ("min", false)
  | _ => none
theorem bltFn {b : Blt} {n : String} (hu : X.A.units + 200 < cLine) (hc : X.calm = true) (h : bltId b = some (n, false)) : CallR X (.builtin n) (rC X.kw (bltV b m)) ∧ bootBuiltins (Str.ofString n) = some (.builtin n) ∧ Str.ofString n ≠ "__name__" ∧ ((Str.ofString n) == ("__debug__" : Str)) = false := by
  cases b <;> simp [bltId] at h <;> subst h
  · exact ⟨call_lenD, by decide +kernel, by decide +kernel, by decide +kernel⟩
  · exact ⟨call_absD, by decide +kernel, by decide +kernel, by decide +kernel⟩
  · exact ⟨call_sortedD hu, by decide +kernel, by decide +kernel, by decide +kernel⟩
  · exact ⟨call_allD hc, by decide +kernel, by decide +kernel, by decide +kernel⟩
  · exact ⟨call_anyD hc, by decide +kernel, by decide +kernel, by decide +kernel⟩
  · exact ⟨call_sumD hc, by decide +kernel, by decide +kernel, by decide +kernel⟩
  · exact ⟨call_min2D hc, by decide +kernel, by decide +kernel, by decide +kernel⟩
  · exact ⟨call_max2D hc, by decide +kernel, by decide +kernel, by decide +kernel⟩
theorem bltTy {b : Blt} {n : String} (hc : X.calm = true) (h : bltId b = some (n, true)) : CallR X (.type n) (rC X.kw (bltV b m)) ∧ bootBuiltins (Str.ofString n) = some (.type n) ∧ Str.ofString n ≠ "__name__" ∧ ((Str.ofString n) == ("__debug__" : Str)) = false := by
  cases b <;> simp [bltId] at h <;> subst h
  · exact ⟨call_intD, by decide +kernel, by decide +kernel, by decide +kernel⟩
  · exact ⟨call_listD, by decide +kernel, by decide +kernel, by decide +kernel⟩
  · exact ⟨call_keysD hc, by decide +kernel, by decide +kernel, by decide +kernel⟩
  · exact ⟨call_tupleD, by decide +kernel, by decide +kernel, by decide +kernel⟩
theorem e_blt {b : Blt} {n : String} {cl : Bool} {es : List Expr} {l : List Ex} {p : Pos} (hu : X.A.units + 200 < cLine) (hc : X.calm = true) (hb : bltId b = some (n, cl)) (hg : Gl X (Str.ofString n)) (hm : X.mg (Str.ofString n) = none)
    (hn : notStar e = true) (hns : es.all notStar = true) (h : PA X (e :: es) (tEs X.kw T F W l)) : PE X (.Call (.Name (Str.ofString n) p) (e :: es) [] pos) (tE X.kw T F W (.blt b m l)) := by
  have fin : ∀ σ H Q, tE X.kw T F W (.blt b m l) σ H Q → tCB (rC X.kw (bltV b m)) (tEs X.kw T F W l) σ H Q := fun σ H Q ⟨μ, S, env, rs, re, h⟩ => by
    refine ⟨μ, S, env, rs, re, (Post.bind h).mono fun xs H1 ⟨μ1, ds, S1, rs1, e1, r1, h1⟩ => ?_⟩
    obtain ⟨z, S', ez, q⟩ := h1.ok_of nx_blt
    exact ⟨μ1, S1, ds, z, S', rs1, r1, ez, q⟩
  cases cl with
  | false =>
    obtain ⟨h1, h2, h3, h4⟩ := bltFn (X := X) (m := m) hu hc hb
    exact PE_imp (pe_callB h1 hg hm h2 h h3 h4 (star_cons hn) (star_none hns)) fin
  | true =>
    obtain ⟨h1, h2, h3, h4⟩ := bltTy (X := X) (m := m) hc hb
    exact PE_imp (pe_callTy h1 hg hm h2 h h3 h4 (star_cons hn) (star_none hns)) fin
/-! ### methods of lists -/
def mthId : Mth → String
  | .append => "append"
  | .remove => "remove"
  | .pop => "pop"
  | .popAt => "pop"
  | .extend => "extend"
  | .index => "index"
/-- a receiver that is no call -/
def plainRecv : Expr → Bool
  | .Name .. => true
  | .Subscript .. => true
  | .Attribute .. => true
  | _ => false
theorem base_of {o : Expr} {f : Str} {env : PySem.Env} (h : plainRecv o = true) : attributeBase o f env (eval o env) = eval o env := by
  cases o <;> first | rfl | (simp [plainRecv] at h)
theorem tyV_lst {μ : Mu} {S : Store} {H : Hp} {x : V} {d : D} {ds : List D} (rs : RelS K μ S H) (r : Rep K μ H x d) (h : lstOf S d = some ds) : tyV K "list" x H := by
  obtain ⟨a, xs, rfl, h1, h2⟩ := lst_of rs r h
  exact .inl ⟨rfl, xs, h1⟩
theorem imp_mth {k : Mth} {l : List Ex} {r : V → List V → Hp → VK → Prop} (hr : r = rM K (mthV k)) {σ : L2.St} {H : Hp} {Q : VK} (h : tE K T F W (.mth k xa l) σ H Q) : tBM K "list" r (tE K T F W xa) (tEs K T F W l) σ H Q := by
  subst hr
  obtain ⟨μ, S, env, rs, re, h⟩ := h
  refine ⟨μ, S, env, rs, re, (Post.bind h).mono fun x H1 ⟨μ1, d, S1, rs1, e1, r1, h1⟩ => ?_⟩
  cases hl : lstOf S1 d with
  | none => rw [hl] at h1; exact h1.elim
  | some ds =>
    rw [hl] at h1
    refine ⟨tyV_lst rs1 r1 hl, μ1, S1, env, rs1, re.mono e1, (Post.bind h1).mono fun xs H2 ⟨μ2, d2, S2, rs2, e2, r2, h2⟩ => ?_⟩
    obtain ⟨z, S', ez, q⟩ := h2.ok_of nx_mth
    exact ⟨μ2, S2, d, d2, z, S', rs2, e2.mono _ _ r1, r2, ez, q⟩
theorem few_of {es : List Expr} {env : PySem.Env} {cpos : Pos} (hn : (e :: es).all notStar = true) (hl : es.length < 20) :
    ((backTo cpos (starEach (e :: es) env)).all (fun x => !x.1) && (backToKw cpos (keywordEach [] env)).all (fun x => x.1.isSome)
      && decide ((e :: es).length + ([] : List Keyword).length + (if ([] : List Keyword).isEmpty then 0 else 1) < 30)) = true := by
  rw [star_all hn]
  simp [backToKw, keywordEach]
  omega
theorem e_mth {k : Mth} {o : Expr} {xo : Ex} {es : List Expr} {l : List Ex} {apos : Pos} (hu : X.A.units + 200 < cLine) (hk : k ≠ .pop) (ho : plainRecv o = true) (hl : (apos.endLine == pos.line) = true) (hn : notStar e = true) (hns : es.all notStar = true) (hz : es.length < 20)
    (h1 : PE X o (tE X.kw T F W xo)) (h2 : PA X (e :: es) (tEs X.kw T F W l)) : PE X (.Call (.Attribute o (Str.ofString (mthId k)) apos) (e :: es) [] pos) (tE X.kw T F W (.mth k xo l)) := by
  have hall : (e :: es).all notStar = true := by simp [hn, hns]
  cases k with
  | append => exact PE_imp (pe_bm PySem.F.plainAttrs_list PySem.F.slot_list_append PySem.F.type_list_append mt_appendD h1 h2 (base_of ho) (few_of hall hz) hl (star_cons hn) (star_none hns)) fun σ H Q h => imp_mth rfl h
  | remove => exact PE_imp (pe_bm PySem.F.plainAttrs_list PySem.F.slot_list_remove PySem.F.type_list_remove (mt_removeD hu) h1 h2 (base_of ho) (few_of hall hz) hl (star_cons hn) (star_none hns)) fun σ H Q h => imp_mth rfl h
  | popAt => exact PE_imp (pe_bm PySem.F.plainAttrs_list PySem.F.slot_list_pop PySem.F.type_list_pop (mt_popAtD trivial) h1 h2 (base_of ho) (few_of hall hz) hl (star_cons hn) (star_none hns)) fun σ H Q h => imp_mth rfl h
  | index => exact PE_imp (pe_bm PySem.F.plainAttrs_list PySem.F.slot_list_index PySem.F.type_list_index (mt_indexD hu) h1 h2 (base_of ho) (few_of hall hz) hl (star_cons hn) (star_none hns)) fun σ H Q h => imp_mth rfl h
  | pop => exact absurd rfl hk
  | extend => exact PE_imp (pe_bm PySem.F.plainAttrs_list PySem.F.slot_list_extend PySem.F.type_list_extend mt_extendD h1 h2 (base_of ho) (few_of hall hz) hl (star_cons hn) (star_none hns)) fun σ H Q h => imp_mth rfl h
theorem e_pop {o : Expr} {xo : Ex} {apos : Pos} (ho : plainRecv o = true) (hl : (apos.endLine == pos.line) = true) (h1 : PE X o (tE X.kw T F W xo)) : PE X (.Call (.Attribute o (Str.ofString "pop") apos) [] [] pos) (tE X.kw T F W (.mth .pop xo [])) := by
  refine PE_imp (pe_bm0 PySem.F.plainAttrs_list PySem.F.slot_list_pop PySem.F.type_list_pop mt_popD h1 (base_of ho) hl) fun σ H Q ⟨μ, S, env, rs, re, h⟩ => ?_
  refine ⟨μ, S, env, rs, re, (Post.bind h).mono fun x H1 ⟨μ1, d, S1, rs1, e1, r1, h1⟩ => ?_⟩
  cases hl : lstOf S1 d with
  | none => rw [hl] at h1; exact h1.elim
  | some ds =>
    rw [hl] at h1
    obtain ⟨z, S', ez, q⟩ := Post.ok_of (r := mthV .pop d [] S1) h1 nx_mth
    exact ⟨tyV_lst rs1 r1 hl, μ1, S1, d, [], z, S', rs1, r1, .nil, ez, q⟩
/-! ### calls of the program's own defs -/
/-- a def's promise: it does what g does -/
def spF (K : KW) (T : Tb) (g : List D → Store → Res D) (np : Nat) : Sp := fun vs H Q E => vs.length = np ∧ ∃ μ S ds, RelS K μ S H ∧ RepL K μ H vs ds ∧ Post K T μ H (RV K) Q E (g ds S)
/-- keywords in the parameters' order -/
def KwOk (K : PySem.W.Frag) (fd : FuncData) (ps : List Str) (k : Nat) : Prop :=
  ∀ (s : Shared) (us ws : List Value), K.In s.heap → us.length = k → ws.length = ps.length - k → BindsTo s fd ⟨us, (ps.drop k).zip ws⟩ (ps.zip (us ++ ws))
section
variable {k n : Nat} {f : Nat} {ad : Addr} {fd : FuncData} {ps : List Str} {ds : List Value} {dvs : List V} {dd : List D} {x : Str} {p : Pos} {l : List Ex} {es : List Expr}
theorem spF_of {μ : Mu} {S : Store} {H : Hp} {Q : VK} {E : XK} {g : List D → Store → Res D} {vs : List V} {xs : List D} (hlen : ∀ ds S, ds.length ≠ n → g ds S = .bad) (rs : RelS K μ S H) (r : RepL K μ H vs xs) (h : Post K T μ H (RV K) Q E (g xs S)) : spF K T g n vs H Q E := by
  refine ⟨?_, μ, S, xs, rs, r, h⟩
  rw [r.length]
  by_cases e : xs.length = n
  · exact e
  · rw [hlen xs S e] at h; exact h.elim
theorem imp_call {σ : L2.St} {H : Hp} {Q : VK} (hlen : ∀ ds S, ds.length ≠ n → F f ds S = .bad) (hd : ∀ μ H, RepL K μ H dvs dd) (h : tE K T F W (.call f l dd) σ H Q) : tCallSD (spF K T (F f) n) dvs (WE W) (tEs K T F W l) σ H Q := by
  obtain ⟨μ, S, env, rs, re, h⟩ := h
  exact ⟨μ, S, env, rs, re, (Post.bind h).mono fun xs H1 ⟨μ1, xd, S1, rs1, e1, r1, h1⟩ => spF_of hlen rs1 (r1.append (hd _ _)) h1⟩
theorem e_call (Fn : FnOk X.prog X.w X.kw X.mg X.base (CX X.prog X.w) k ad fd ps (spF X.kw T (F f) n)) (hr : Room k X.A) (hg : Gl X x) (hm : X.mg x = some (.ref ad)) (hk : PySem.W.keepIn X.kw (.ref ad) = true) (hb : Binds X.kw fd ps ds) (hv : Vals dvs ds) (hd : ∀ μ H, RepL X.kw μ H dvs dd)
    (hlen : ∀ ds S, ds.length ≠ n → F f ds S = .bad) (tk : Takes X W) (hdb : (x == ("__debug__" : Str)) = false) (hn : notStar e = true) (hns : es.all notStar = true) (h : PA X (e :: es) (tEs X.kw T F W l)) : PE X (.Call (.Name x p) (e :: es) [] pos) (tE X.kw T F W (.call f l dd)) :=
  PE_imp (pe_callSD Fn hr hg hm hk hb hv (fun σ => passAt tk σ) h hdb (star_cons hn) (star_none hns)) fun σ H Q h => imp_call hlen hd h
theorem e_call0 (Fn : FnOk X.prog X.w X.kw X.mg X.base (CX X.prog X.w) k ad fd ps (spF X.kw T (F f) n)) (hr : Room k X.A) (hg : Gl X x) (hm : X.mg x = some (.ref ad)) (hk : PySem.W.keepIn X.kw (.ref ad) = true) (hb : Binds X.kw fd ps ds) (hv : Vals dvs ds) (hd : ∀ μ H, RepL X.kw μ H dvs dd)
    (hlen : ∀ ds S, ds.length ≠ n → F f ds S = .bad) (tk : Takes X W) (hdb : (x == ("__debug__" : Str)) = false) : PE X (.Call (.Name x p) [] [] pos) (tE X.kw T F W (.call f [] dd)) := by
  refine ⟨fun pins s σ H Q I ⟨μ, S, env, rs, re, h⟩ => ?_⟩
  refine wpAny_Call_Name_kw (ld_glob I hg hm ?_ hdb)
  exact PySem.W.callWith_K0 I.kIn hk (run_fnSD (us := []) (vs := []) (E := WE W) Fn hr hb hv (passAt tk σ) I .nil (spF_of hlen rs (hd _ _) h))
/-- the callee runs, keywords among the arguments -/
theorem run_kw {pins : List (Addr × Obj)} {σ : L2.St} {H : Hp} {s : Shared} {Q : VK} {us ws : List Value} {vs zs : List V} {j : Nat} {sp : Sp} (Fn : FnOk X.prog X.w X.kw X.mg X.base (CX X.prog X.w) k ad fd ps sp) (hr : Room k X.A) (hb : KwOk X.kw fd ps j) (tk : Takes X W)
    (I : Inv X pins σ H s) (r : Vals vs us) (rz : Vals zs ws) (h1 : us.length = j) (h2 : ws.length = ps.length - j) (h : sp (vs ++ zs) H Q (WE W σ)) : wpAny (model X.prog X.w) X.A (call (.ref ad) us ((ps.drop j).zip ws)) (EP X pins σ Q) X.xe s := by
  refine wpAny_call (codeAny_mono (Fn.run X.A X.stack s H ⟨us, (ps.drop j).zip ws⟩ (us ++ ws) (vs ++ zs) Q (WE W σ) hr I.env0 (hb s us ws I.kIn h1 h2) (r.append rz) h) fun q s' hq => ?_)
  cases q with
  | error e => exact passAt tk σ pins H s e s' I hq
  | ok fl =>
    cases fl with
    | ret u => exact I.after hq
    | next => exact hq.elim
    | brk => exact hq.elim
    | cont => exact hq.elim
/-- keywords' values -/
def tKs (K : KW) (T : Tb) (F : FS) (W : WX) (l : List Ex) : TA := tEs K T F W l
theorem PK_imp {kws : List Keyword} {t t' : TA} (h : PK X kws t) (i : ∀ σ H Q, t' σ H Q → t σ H Q) : PK X kws t' := ⟨fun pos pins s σ H Q I hw => h.run pos pins s σ H Q I (i σ H Q hw)⟩
theorem ks_nil : PK X [] (tKs X.kw T F W []) :=
  PK_imp pk_nil fun σ H Q ⟨μ, S, env, rs, re, h⟩ => h [] μ H rs .refl .nil
theorem ks_cons {nm : Option Str} {kp : Pos} {kws : List Keyword} {l : List Ex} (ha : PE X e (tE X.kw T F W xa)) (hr : PK X kws (tKs X.kw T F W l)) : PK X (⟨nm, e, kp⟩ :: kws) (tKs X.kw T F W (xa :: l)) := by
  refine PK_imp (pk_cons ha hr) fun σ H Q ⟨μ, S, env, rs, re, h⟩ => ?_
  refine ⟨μ, S, env, rs, re, (Post.bind h).mono fun x H1 ⟨μ1, d, S1, rs1, e1, r1, h1⟩ => ?_⟩
  refine ⟨μ1, S1, env, rs1, re.mono e1, (Post.bind h1).mono fun xs H2 ⟨μ2, ds, S2, rs2, e2, r2, h2⟩ => ?_⟩
  exact h2 (x :: xs) μ2 H2 rs2 .refl (.cons (e2.mono _ _ r1) r2)
theorem evs_app {l1 l2 : List Ex} {env : Env} : ∀ {S : Store}, evs F (l1 ++ l2) env S = (evs F l1 env S).bind fun xs S1 => (evs F l2 env S1).bind fun ys S2 => .ok (xs ++ ys) S2 := by
  induction l1 with
  | nil =>
    intro S
    show evs F l2 env S = (Res.ok [] S).bind _
    simp only [Res.bind_ok, List.nil_append]
    cases evs F l2 env S <;> rfl
  | cons x l1 ih =>
    intro S
    have e1 : evs F (x :: l1 ++ l2) env S = (ev F x env S).bind fun d S1 => (evs F (l1 ++ l2) env S1).bind fun ys S2 => .ok (d :: ys) S2 := rfl
    have e2 : evs F (x :: l1) env S = (ev F x env S).bind fun d S1 => (evs F l1 env S1).bind fun ys S2 => .ok (d :: ys) S2 := rfl
    rw [e1, e2]
    cases ev F x env S with
    | ok d S1 =>
      simp only [Res.bind_ok, ih]
      cases evs F l1 env S1 with
      | ok xs S2 =>
        simp only [Res.bind_ok]
        cases evs F l2 env S2 <;> rfl
      | exc c d S2 => rfl
      | bad => rfl
    | exc c d S1 => rfl
    | bad => rfl
theorem evs_len {l : List Ex} {env : Env} : ∀ {S S' : Store} {xs : List D}, evs F l env S = .ok xs S' → xs.length = l.length := by
  induction l with
  | nil => intro S S' xs h; cases h; rfl
  | cons x l ih =>
    intro S S' xs h
    have h' : ((ev F x env S).bind fun d S1 => (evs F l env S1).bind fun ys S2 => .ok (d :: ys) S2) = .ok xs S' := h
    cases e1 : ev F x env S with
    | ok d S1 =>
      rw [e1] at h'
      simp only [Res.bind_ok] at h'
      cases e2 : evs F l env S1 with
      | ok ys S2 =>
        rw [e2] at h'
        cases h'
        simp [ih e2]
      | exc c d S2 => rw [e2] at h'; cases h'
      | bad => rw [e2] at h'; cases h'
    | exc c d S1 => rw [e1] at h'; cases h'
    | bad => rw [e1] at h'; cases h'
/-- the names of keywords, all told -/
def kwNames (kws : List Keyword) : List Str := kws.filterMap (·.1)
def kwAll (kws : List Keyword) : Bool := kws.all (·.1.isSome)
theorem kw_each {kws : List Keyword} {env : PySem.Env} {p : Pos} : (backToKw p (keywordEach kws env)).map (·.1) = kws.map (·.1) := by
  induction kws with
  | nil => rfl
  | cons a r ih =>
    obtain ⟨nm, v, kp⟩ := a
    show nm :: (backToKw p (keywordEach r env)).map (·.1) = nm :: r.map (·.1)
    rw [ih]
theorem kw_all {kws : List Keyword} {env : PySem.Env} {p : Pos} (h : kwAll kws = true) : (backToKw p (keywordEach kws env)).all (·.1.isSome) = true := by
  have := kw_each (kws := kws) (env := env) (p := p)
  have e : (backToKw p (keywordEach kws env)).all (·.1.isSome) = ((backToKw p (keywordEach kws env)).map (·.1)).all Option.isSome := by rw [List.all_map]; rfl
  rw [e, this, List.all_map]
  exact h
theorem kw_names {kws : List Keyword} {env : PySem.Env} {p : Pos} : (backToKw p (keywordEach kws env)).filterMap (·.1) = kwNames kws := by
  have e : (backToKw p (keywordEach kws env)).filterMap (·.1) = ((backToKw p (keywordEach kws env)).map (·.1)).filterMap id := by rw [List.filterMap_map]; rfl
  rw [e, kw_each, List.filterMap_map]
  rfl
theorem kw_plain {kws : List Keyword} {env : PySem.Env} {p : Pos} (h : kwAll kws = true) : (backToKw p (keywordEach kws env)).any (·.1.isNone) = false := by
  have h2 := kw_all (env := env) (p := p) h
  rw [List.any_eq_false]
  intro a ha
  have := List.all_eq_true.mp h2 a ha
  cases hh : a.1 <;> simp_all
theorem Post.lenL {μ : Mu} {H : Hp} {Q : List V → Hp → Prop} {E : XK} {l : List Ex} {env : Env} {S : Store} (h : Post K T μ H (RVs K) Q E (evs F l env S)) : Post K T μ H (RVs K) (fun vs H' => vs.length = l.length ∧ Q vs H') E (evs F l env S) := by
  cases hr : evs F l env S with
  | ok xs S' =>
    rw [hr] at h
    exact fun z μ' H' h1 h2 h3 => ⟨by rw [RepL.length h3, evs_len hr], h z μ' H' h1 h2 h3⟩
  | exc c d S' => rw [hr] at h; exact h
  | bad => rw [hr] at h; exact h
/-- f(.., k = v, ..), the keywords in the parameters' order -/
theorem e_callK {kws : List Keyword} {l2 : List Ex} (Fn : FnOk X.prog X.w X.kw X.mg X.base (CX X.prog X.w) k ad fd ps (spF X.kw T (F f) n)) (hr : Room k X.A) (hg : Gl X x) (hm : X.mg x = some (.ref ad)) (hk : PySem.W.keepIn X.kw (.ref ad) = true) (hb : KwOk X.kw fd ps l.length)
    (hlen : ∀ ds S, ds.length ≠ n → F f ds S = .bad) (tk : Takes X W) (hdb : (x == ("__debug__" : Str)) = false) (hka : kwAll kws = true) (hkn : kwNames kws = ps.drop l.length) (hl2 : l2.length = ps.length - l.length)
    (hns : es.all notStar = true) (hes : es = [] → l = []) (h : PA X es (tEs X.kw T F W l)) (h2 : PK X kws (tKs X.kw T F W l2)) : PE X (.Call (.Name x p) es kws pos) (tE X.kw T F W (.call f (l ++ l2) [])) := by
  refine ⟨fun pins s σ H Q I ⟨μ, S, env, rs, re, h0⟩ => ?_⟩
  have h0' : Post X.kw T μ H (RV X.kw) Q (fun c o H' => W c o σ H') (((evs F l env S).bind fun xs S1 => (evs F l2 env S1).bind fun ys S2 => .ok (xs ++ ys) S2).bind fun xs S1 => F f (xs ++ []) S1) := by
    rw [← evs_app]; exact h0
  rw [bind_bind] at h0'
  have key : ∀ (us : List Value) (s1 : Shared), AP X pins σ (fun vs H1 => vs.length = l.length ∧ ∃ μ1 a S1, RelS X.kw μ1 S1 H1 ∧ Ext X.kw μ H μ1 H1 ∧ RepL X.kw μ1 H1 vs a ∧ Post X.kw T μ1 H1 (RV X.kw) Q (fun c o H' => W c o σ H') (((evs F l2 env S1).bind fun ys S2 => .ok (a ++ ys) S2).bind fun xs S1 => F f (xs ++ []) S1)) us s1 →
      wpAny (model X.prog X.w) X.A (evalAll ((backToKw pos (keywordEach kws X.env)).map (·.2))) (fun ks s₂ => X.K.In s₂.heap ∧ wpAny (model X.prog X.w) X.A (call (.ref ad) us (((backToKw pos (keywordEach kws X.env)).filterMap (·.1)).zip ks)) (EP X pins σ Q) X.xe s₂) X.xe s1 := by
    intro us s1 ⟨vs, H1, I1, r1, hl1, μ1, a, S1, rs1, e1, ra, h1⟩
    rw [bind_bind] at h1
    refine thn (h2.run pos pins s1 σ H1 _ I1 ⟨μ1, S1, env, rs1, re.mono e1, Post.lenL (Post.bind (R' := RVs X.kw) h1)⟩) fun ws s2 ⟨zs, H2, I2, rz, hz, μ2, b, S2, rs2, e2, rb, h3⟩ => ⟨I2.kIn, ?_⟩
    rw [kw_names, hkn]
    refine run_kw Fn hr hb tk I2 r1 rz (by rw [← r1.length]; exact hl1) (by rw [← rz.length, hz, hl2]) ?_
    simp only [Res.bind_ok, List.append_nil] at h3
    exact spF_of hlen rs2 ((e2.monoL ra).append rb) h3
  refine wpAny_Call_Name_kw (ld_glob I hg hm ?_ hdb)
  cases es with
  | nil =>
    refine PySem.W.callWith_KW0 (h₀ := X.base) I.ok.mod.kin hk (kw_all hka) ?_ (by rw [kw_plain hka]; rfl)
    cases hes rfl
    exact key [] s ⟨[], H, I, .nil, rfl, μ, [], S, rs, .refl, .nil, by simpa [evs] using h0'⟩
  | cons e es =>
    simp only [List.all_cons, Bool.and_eq_true] at hns
    refine PySem.W.callWith_KW (h₀ := X.base) I.ok.mod.kin hk (kw_all hka) (thn (h.run pos pins s σ H _ I ⟨μ, S, env, rs, re, Post.lenL (Post.bind (R' := RVs X.kw) h0')⟩) fun us s1 h => key us s1 h) ?_ (star_cons hns.1)
    rw [kw_plain hka, star_none (by simp [hns])]
    rfl
end
end
end DL

set_option linter.all false
set_option maxRecDepth 100000
/-! DL.It: what loops walk. -/
namespace PySem
theorem enum_new1 {v : Value} {o : Obj} {H : Heap → Prop} (B : Begins v o H) :
    Meets (Builtin.«enumerate.__new__» ⟨[.type "enumerate", v], []⟩) (fun _ R s => H s.heap ∧
      R (.ok (.ret (.ref (s.heap.push o).objs.size))) { s with heap := (s.heap.push o).push { cls := .type "enumerate", data := .fields #[.none, .bool false, .ref s.heap.objs.size, rawInt 0, .none, .none] } }) :=
  .of_wp fun prog w A R s h => by
    obtain ⟨hp, g, d, tk, os⟩ := s
    obtain ⟨h1, h⟩ := h
    have hsub := sub_enumerate
    have q1 : ∀ {A' : Around} {E : Value → Shared → Prop} {Q : Value → Shared → Prop}, Q (.ref hp.objs.size) ⟨hp.push o, g, d, tk, os⟩ → wpAny (model prog w) A' (pyIter v) Q E ⟨hp, g, d, tk, os⟩ :=
      fun q => B.iter prog w _ _ ⟨hp, g, d, tk, os⟩ _ h1 q
    wp_walk using q1
    refine wpAny_stack_any fun st => wpAny_pure ?_
    split
    · rename_i c _ _ _ _ _
      cases (c == Value.type "enumerate") <;> (wp_walk using q1; exact ⟨_, rfl, h⟩)
    · wp_walk using q1
      exact ⟨_, rfl, h⟩
theorem enum_begins1 {prog : Program} {w : World} {A : Around} {E : Value → Shared → Prop} {s : Shared} {v : Value} {o : Obj} {H : Heap → Prop} {Q : Value → Shared → Prop} (B : Begins v o H) (h1 : H s.heap)
    (h : ∀ h', IsEnum h' (s.heap.objs.size + 1) s.heap.objs.size 0 .none → h'.get? s.heap.objs.size = some o → h'.objs.size = s.heap.objs.size + 2 →
      (∀ b ob, s.heap.get? b = some ob → h'.get? b = some ob) → Q (.ref (s.heap.objs.size + 1)) { s with heap := h' }) :
    wpAny (model prog w) A (call (.type "enumerate") [v]) Q E s := by
  refine callType_new F.called_enumerate (by decide) (F.typeCall_enumerate_1 _) (F.newCall_enumerate_1 _) (fun obj => F.args_object_init_2 obj _) F.entry_enumerate_new
    (enum_new1 B) ⟨h1, ?_⟩
  have hz : (s.heap.push o).objs.size = s.heap.objs.size + 1 := Heap.size_push ..
  show _ ∧ _
  rw [hz]
  have he : IsEnum ((s.heap.push o).push { cls := .type "enumerate", data := .fields #[.none, .bool false, .ref s.heap.objs.size, rawInt 0, .none, .none] }) (s.heap.objs.size + 1) s.heap.objs.size 0 .none := by
    have q := Heap.get?_push_size (s.heap.push o) (o := { cls := .type "enumerate", data := .fields #[.none, .bool false, .ref s.heap.objs.size, rawInt 0, .none, .none] }) rfl
    rw [hz] at q
    exact q
  exact ⟨⟨_, he, rfl⟩, h _ he (Heap.get?_push_of_some _ (Heap.get?_push_size _ B.free)) (by rw [Heap.size_push, hz]) fun b o x => Heap.get?_push_of_some _ (Heap.get?_push_of_some _ x)⟩
end PySem
namespace DL
open PySem L2 PySem.Spec PyProof.Rows
/-- enumerate(a tuple): each item in a new pair -/
def IteT (K : PySem.W.Frag) (a : Addr) : L2.It :=
  ⟨fun i H => ∃ (xs : List V) (x : V), SqT K H a xs ∧ xs[i]? = some x, fun i H v H' => ∃ T x, v = .ref T ∧ H T = none ∧ H' = upd H T (.tup [.int (i : Nat), x]) ∧ ∀ xs, SqT K H a xs → xs[i]? = some x, fun i H => ∃ xs : List V, SqT K H a xs ∧ xs.length = i⟩
theorem turn_enumT {P : Program} {w : World} {K : PySem.W.Frag} {elts : List Expr} {kk : Nat} {tpos : Pos} (a e it : Addr) :
    Turn P w K (.Tuple elts kk tpos) (IteT K a) [e, it] e (fun i h => (∃ old, IsEnum h e it ((i : Nat) : Int) old) ∧ h.IsTupleIter it a i ∧ e ≠ it) where
  mem := by simp
  obj := fun i h st b hb => by
    obtain ⟨⟨old, he⟩, ⟨o, ho, hc, hd⟩, _⟩ := st
    rcases (show b = e ∨ b = it by simpa using hb) with z | z
    · subst z; exact ⟨_, he, fun v q => nomatch q⟩
    · subst z; exact ⟨o, ho, fun v q => by rw [hd] at q; cases q⟩
  keep := fun i h h' st k => let ⟨⟨old, he⟩, hi, hne⟩ := st; ⟨⟨old, k e (by simp) _ he⟩, hi.at fun o q => k it (by simp) o q, hne⟩
  item := by
    intro X hP hw hK hc i pins s σ H E I hf st hg
    subst hP hw hK
    obtain ⟨⟨old, he⟩, hit, hne⟩ := st
    obtain ⟨xs, x, hq, hx⟩ := hg
    obtain ⟨its, rv, p, hz⟩ := I.tuple hq
    obtain ⟨u, hu, ru⟩ := rv.get hx
    have hel : e < s.heap.objs.size := Heap.lt_size he
    have hil : it < s.heap.objs.size := by obtain ⟨_, q, _⟩ := hit; exact Heap.lt_size q
    have pt : s.heap.IsTuple a its.toArray := p
    have hai : a ≠ it := by
      obtain ⟨o1, q1, c1, _⟩ := pt
      obtain ⟨o2, q2, c2, _⟩ := hit
      rintro rfl
      rw [q1] at q2; cases q2
      rw [c1] at c2
      simp at c2
    have hae : e ≠ a := by
      obtain ⟨o1, q1, c1, _⟩ := pt
      rintro rfl
      rw [he] at q1; cases q1
      simp at c1
    have hlt : i < its.length := (List.getElem?_eq_some_iff.mp hu).1
    refine wpAny_pyNext_enum_itemD (Draws.tuple (A := X.A.in1) (I.ok.hd hc) it a hai its.toArray) he ⟨hit, pt⟩ (by simpa using hlt) hne (by simp [hne, hae]) fun y h' tk hy ho hit' hT hsz hk => ?_
    obtain rfl : y = u := by
      have : its.toArray[i]? = some y := hy
      simp at this
      rw [hu] at this
      exact (Option.some.inj this).symm
    refine ⟨_, rfl, wpAny_letOwnedTupleGo_enum (s := { s with heap := h', toks := tk + 1 }) ho fun h'' he' sb => ?_⟩
    have hT2 : h''.get? s.heap.objs.size = some { cls := .type "tuple", data := .seq #[.int i tk, y] } := (sb.2 _ (Nat.ne_of_gt hel)).trans hT
    have new : ObjOk X.prog X.w (upd H s.heap.objs.size (.tup [.int (i : Nat), x])) h'' s.heap.objs.size (.tup [.int (i : Nat), x]) :=
      ⟨by show 2 ≤ sizeLine; decide, [.int i tk, y], .cons ⟨_, rfl⟩ (.cons ru .nil), ⟨_, hT2, rfl, _, rfl⟩⟩
    have I1 : Inv X pins σ (upd H s.heap.objs.size (.tup [.int (i : Nat), x])) { s with heap := h'', toks := tk + 1 } :=
      I.turnedNew (ch := [e, it]) (fun b ob hb q => (sb.2 b (fun z => hb (by simp [z]))).trans (hk b ob (fun z => hb (by simp [z])) (fun z => hb (by simp [z])) q)) hf (Nat.le_refl _) new
    refine ⟨.ref s.heap.objs.size, _, I1, rfl, ⟨_, x, rfl, I.hok.fresh (Nat.le_refl _), rfl, fun ys hy => by rw [I.tuple_inj hy hq]; exact hx⟩, ⟨⟨y, ?_⟩, hit'.1.at fun o q => (sb.2 it (Ne.symm hne)).trans q, hne⟩, fun b hb => ?_⟩
    · have e1 : ((i + 1 : Nat) : Int) = (i : Int) + 1 := by omega
      rw [e1]; exact he'
    · have hb' : b < s.heap.objs.size := by
        rcases (show b = e ∨ b = it by simpa using hb) with z | z
        · rw [z]; exact hel
        · rw [z]; exact hil
      rw [upd_ne (Nat.ne_of_lt hb')]
      exact (hf b hb).1
  done := by
    intro X hP hw hK hc i pins s σ H E I hf st hg
    subst hP hw hK
    obtain ⟨⟨old, he⟩, hit, hne⟩ := st
    obtain ⟨xs, hq, hx⟩ := hg
    obtain ⟨its, rv, p, hz⟩ := I.tuple hq
    have pt : s.heap.IsTuple a its.toArray := p
    obtain ⟨f0, f1, f2, f3, f4, f5⟩ := hf it (by simp)
    have hl := rv.length
    have hai : a ≠ it := by
      obtain ⟨o1, q1, c1, _⟩ := pt
      obtain ⟨o2, q2, c2, _⟩ := hit
      rintro rfl
      rw [q1] at q2; cases q2
      rw [c1] at c2
      simp at c2
    have hit' : s.heap.IsTupleIter it a its.toArray.size := by
      have : its.toArray.size = i := by simp; omega
      rw [this]; exact hit
    exact wpAny_pyNext_enum_endD (Draws.tuple (A := X.A.in1) (I.ok.hd hc) it a hai its.toArray) he ⟨hit', pt⟩ fun h' eb => ⟨rfl, I.turned (t' := s.toks) (fun b o hb q => eb b o hb q) f0 f1 f3 f4 f5⟩
  self := fun A i s Q E st h => let ⟨⟨_, he⟩, _⟩ := st; wpAny_pyIter_enum he h

theorem walk_enumT {K : PySem.W.Frag} {a : Addr} {xs : List V} : Walk (IteT K a) xs.length (fun H => SqT K H a xs) (fun i H v H' => ∃ T x, v = .ref T ∧ H T = none ∧ H' = upd H T (.tup [.int (i : Nat), x]) ∧ ∀ xs, SqT K H a xs → xs[i]? = some x) where
  goes i H hi h := ⟨xs, xs[i], h, by simp [hi]⟩
  stops H h := ⟨xs, h, rfl⟩
  yields i H x H' _ _ y := y
section
variable {K : KW} {T : Tb} {F : FS} {W : WX} {X : Cx} {tg a b e : Expr} {xa xb : Ex} {pos : Pos}
/-- items are walked: J tells them, one by one, as long as the list stands still -/
structure WkD (K : KW) (J : L2.It) (items : List D) (g : Option Nat) (S0 : Store) (μ1 : Mu) (H1 : Hp) : Prop where
  walk : ∃ (G : Hp → Prop) (Y : Nat → Hp → V → Hp → Prop), Walk J items.length G Y ∧ (∀ μ S H, RelS K μ S H → Mono K μ1 H1 μ H → still g S0 S = true → G H) ∧
    (∀ i x H H' μ S d, items[i]? = some d → RelS K μ S H → Mono K μ1 H1 μ H → still g S0 S = true → Y i H x H' → RelS K μ S H' ∧ Ext K μ H μ H' ∧ Rep K μ H' x d)
def evI (F : FS) (k : IK) (its : List Ex) (env : Env) (S : Store) : Res ((List D × Option Nat) × Store) := ((evs F its env S).bind fun vs S1 => itemsV k vs S1).bind fun p S2 => .ok (p, S2) S2
def tI (K : KW) (T : Tb) (F : FS) (W : WX) (k : IK) (its : List Ex) : TI := fun σ H R => ∃ μ S env, RelS K μ S H ∧ RelE K μ H env σ ∧ Post K T μ H (fun μ1 H1 (J : L2.It) p => WkD K J p.1.1 p.1.2 p.2 μ1 H1) R (fun c o H' => W c o σ H') (evI F k its env S)
theorem PI_imp {t t' : TI} (h : PI X tg e t) (i : ∀ σ H Q, t' σ H Q → t σ H Q) : PI X tg e t' := ⟨fun pins s σ H Q I hw => h.run pins s σ H Q I (i σ H Q hw)⟩
theorem nx_items {k : IK} {vs : List D} {S : Store} : NoExc (itemsV k vs S) := by
  unfold itemsV
  split <;> (first | unfold valI | unfold rng1I | unfold rng2I | unfold enumI | unfold zipI | unfold rngdI)
  all_goals repeat' split
  all_goals first | exact nx_ok | exact nx_bad
theorem items_store {k : IK} {vs : List D} {S S' : Store} {p : List D × Option Nat} (h : itemsV k vs S = .ok p S') : S' = S := by
  unfold itemsV at h
  split at h <;> (first | unfold valI at h | unfold rng1I at h | unfold rng2I at h | unfold enumI at h | unfold zipI at h | unfold rngdI at h)
  all_goals repeat' split at h
  all_goals first | (cases h; rfl) | (cases h)
/-- the loop's items by the walked values -/
theorem imp_items {k : IK} {its : List Ex} {σ : L2.St} {H : Hp} {R : L2.It → Hp → Prop} (h : tI K T F W k its σ H R) : tEs K T F W its σ H fun vs H1 => ∃ μ1 S1 ds p, RelS K μ1 S1 H1 ∧ RepL K μ1 H1 vs ds ∧ itemsV k ds S1 = .ok p S1 ∧ ∀ J, WkD K J p.1 p.2 S1 μ1 H1 → R J H1 := by
  obtain ⟨μ, S, env, rs, re, h⟩ := h
  unfold evI at h
  rw [bind_bind] at h
  refine ⟨μ, S, env, rs, re, (Post.bind h).mono fun vs H1 ⟨μ1, ds, S1, rs1, e1, r1, h1⟩ => ?_⟩
  cases hp : itemsV k ds S1 with
  | exc c d S' => exact absurd hp (nx_items c d S')
  | bad => rw [hp] at h1; exact h1.elim
  | ok p S' =>
    cases items_store hp
    rw [hp] at h1
    exact ⟨μ1, S1, ds, p, rs1, r1, hp, fun J w => h1 J μ1 H1 rs1 .refl w⟩
theorem keep_tup {μ1 μ : Mu} {H1 H : Hp} {a : Addr} {ds : List D} (r : Rep K μ1 H1 (.ref a) (.tuple ds)) (e : Mono K μ1 H1 μ H) : ∃ xs, SqT K H a xs ∧ RepL K μ H xs ds := by
  have := e.mono _ _ r
  cases this with
  | tup h1 h2 => exact ⟨_, h1, h2⟩
theorem sqT_inj {H : Hp} {a : Addr} {xs ys : List V} (h1 : Rd H a (.tup xs)) (h2 : Rd H a (.tup ys)) : xs = ys := by
  rcases h1 with h1 | ⟨o, h1⟩ <;> rcases h2 with h2 | ⟨o', h2⟩ <;> rw [h1] at h2 <;> simp at h2
  · exact h2
  · exact h2.2
/-- the list that is walked, as it stands now -/
theorem keep_lst {μ1 μ : Mu} {H1 H : Hp} {S0 S : Store} {a : Addr} {d : D} {ds : List D} (rs0 : RelS K μ1 S0 H1) (r : Rep K μ1 H1 (.ref a) d) (hd : lstOf S0 d = some ds) (rs : RelS K μ S H) (e : Mono K μ1 H1 μ H) (st : still (locOf d) S0 S = true) : ∃ xs, SqL K H a xs ∧ RepL K μ H xs ds := by
  have r' := e.mono _ _ r
  cases r with
  | lst _ _ _ =>
    cases r' with
    | lst h1 h2 h3 =>
      simp [lstOf] at hd
      subst hd
      exact ⟨_, .inl (.inl h2), h3⟩
  | ro _ =>
    simp [lstOf] at hd
    subst hd
    obtain ⟨a', e1, h1⟩ := ro_inv r' rfl
    cases e1
    exact ⟨_, h1.sql, .ints⟩
  | rf h1 =>
    rename_i n
    simp [lstOf] at hd
    simp only [locOf, still, Int.toNat_natCast, hd] at st
    cases hS : atL S n with
    | none => simp [hS] at st
    | some ys =>
      rw [hS] at st
      have := beqL_eq (show beqL ds ys = true from st)
      subst this
      obtain ⟨b, xs, e1, e2, e3⟩ := rs.lst_at hS
      cases r' with
      | rf h2 =>
        rw [h2] at e1
        cases e1
        exact ⟨xs, .inl (.inl e2), e3⟩
  | _ => simp [lstOf] at hd
theorem wk_list {μ1 : Mu} {H1 : Hp} {S0 : Store} {a : Addr} {d : D} {ds : List D} (rs0 : RelS K μ1 S0 H1) (r : Rep K μ1 H1 (.ref a) d) (hd : lstOf S0 d = some ds) : WkD K (Itl K a) ds (locOf d) S0 μ1 H1 := by
  refine ⟨fun H => ∃ xs, SqL K H a xs ∧ xs.length = ds.length, fun i H x H' => H' = H ∧ ∀ xs, SqL K H a xs → xs[i]? = some x, ⟨fun i H hi ⟨xs, h, hl⟩ => ?_, fun H ⟨xs, h, hl⟩ => ?_, fun i H x H' _ _ y => y⟩, fun μ S H rs e st => ?_, fun i x H H' μ S d' hi rs e st y => ?_⟩
  · exact ⟨xs, xs[i]'(by omega), h, by simp⟩
  · exact ⟨xs, h, by omega⟩
  · obtain ⟨xs, h1, h2⟩ := keep_lst rs0 r hd rs e st
    exact ⟨xs, h1, h2.length⟩
  · obtain ⟨rfl, y⟩ := y
    obtain ⟨xs, h1, h2⟩ := keep_lst rs0 r hd rs e st
    obtain ⟨v, e1, r1⟩ := h2.get hi
    rw [y xs h1] at e1
    cases e1
    exact ⟨rs, .refl, r1⟩
theorem wk_tup {μ1 : Mu} {H1 : Hp} {S0 : Store} {a : Addr} {ds : List D} (r : Rep K μ1 H1 (.ref a) (.tuple ds)) : WkD K (Itt K a) ds none S0 μ1 H1 := by
  refine ⟨fun H => ∃ xs, SqT K H a xs ∧ xs.length = ds.length, fun i H x H' => H' = H ∧ ∀ xs, SqT K H a xs → xs[i]? = some x, ⟨fun i H hi ⟨xs, h, hl⟩ => ?_, fun H ⟨xs, h, hl⟩ => ?_, fun i H x H' _ _ y => y⟩, fun μ S H rs e st => ?_, fun i x H H' μ S d' hi rs e st y => ?_⟩
  · exact ⟨xs, xs[i]'(by omega), h, by simp⟩
  · exact ⟨xs, h, by omega⟩
  · obtain ⟨xs, h1, h2⟩ := keep_tup r e
    exact ⟨xs, h1, h2.length⟩
  · obtain ⟨rfl, y⟩ := y
    obtain ⟨xs, h1, h2⟩ := keep_tup r e
    obtain ⟨v, e1, r1⟩ := h2.get hi
    rw [y xs h1] at e1
    cases e1
    exact ⟨rs, .refl, r1⟩
/-- a pair newly laid -/
theorem new_pair {μ : Mu} {S : Store} {H : Hp} {p : Addr} {x y : V} {dx dy : D} (rs : RelS K μ S H) (hp : H p = none) (hx : Rep K μ H x dx) (hy : Rep K μ H y dy) :
    RelS K μ S (upd H p (.tup [x, y])) ∧ Ext K μ H μ (upd H p (.tup [x, y])) ∧ Rep K μ (upd H p (.tup [x, y])) (.ref p) (.tuple [dx, dy]) := by
  obtain ⟨h1, h2⟩ := rs.new (o := .tup [x, y]) hp
  exact ⟨h1, h2, .tup (.inl (.inl upd_same)) (.cons (h2.mono _ _ hx) (.cons (h2.mono _ _ hy) .nil))⟩
theorem enum_get {ds : List D} {i : Nat} {d : D} (h : (ds.mapIdx fun i x => PyData.tuple [.int i, x])[i]? = some d) : ∃ x, ds[i]? = some x ∧ d = .tuple [.int i, x] := by
  rw [List.getElem?_mapIdx] at h
  cases hx : ds[i]? with
  | none => rw [hx] at h; simp at h
  | some x => rw [hx] at h; simp at h; exact ⟨x, rfl, h.symm⟩
theorem wk_enumL {μ1 : Mu} {H1 : Hp} {S0 : Store} {a : Addr} {d : D} {ds : List D} (rs0 : RelS K μ1 S0 H1) (r : Rep K μ1 H1 (.ref a) d) (hd : lstOf S0 d = some ds) : WkD K (Ite K a) (ds.mapIdx fun i x => .tuple [.int i, x]) (locOf d) S0 μ1 H1 := by
  refine ⟨fun H => ∃ xs, SqL K H a xs ∧ xs.length = ds.length, fun i H v H' => ∃ T x, v = .ref T ∧ H T = none ∧ H' = upd H T (.tup [.int (i : Nat), x]) ∧ ∀ xs, SqL K H a xs → xs[i]? = some x, ⟨fun i H hi ⟨xs, h, hl⟩ => ?_, fun H ⟨xs, h, hl⟩ => ?_, fun i H x H' _ _ y => y⟩, fun μ S H rs e st => ?_, fun i x H H' μ S d' hi rs e st y => ?_⟩
  · simp at hi
    exact ⟨xs, xs[i]'(by omega), h, by simp⟩
  · exact ⟨xs, h, by simp; omega⟩
  · obtain ⟨xs, h1, h2⟩ := keep_lst rs0 r hd rs e st
    exact ⟨xs, h1, h2.length⟩
  · obtain ⟨p, x', rfl, hp, rfl, y⟩ := y
    obtain ⟨xs, h1, h2⟩ := keep_lst rs0 r hd rs e st
    obtain ⟨dx, hi', rfl⟩ := enum_get hi
    obtain ⟨v, e1, r1⟩ := h2.get hi'
    rw [y xs h1] at e1
    cases e1
    exact new_pair rs hp (.int _) r1
theorem wk_enumT {μ1 : Mu} {H1 : Hp} {S0 : Store} {a : Addr} {ds : List D} (r : Rep K μ1 H1 (.ref a) (.tuple ds)) : WkD K (IteT K a) (ds.mapIdx fun i x => .tuple [.int i, x]) none S0 μ1 H1 := by
  refine ⟨fun H => ∃ xs, SqT K H a xs ∧ xs.length = ds.length, fun i H v H' => ∃ T x, v = .ref T ∧ H T = none ∧ H' = upd H T (.tup [.int (i : Nat), x]) ∧ ∀ xs, SqT K H a xs → xs[i]? = some x, ⟨fun i H hi ⟨xs, h, hl⟩ => ?_, fun H ⟨xs, h, hl⟩ => ?_, fun i H x H' _ _ y => y⟩, fun μ S H rs e st => ?_, fun i x H H' μ S d' hi rs e st y => ?_⟩
  · simp at hi
    exact ⟨xs, xs[i]'(by omega), h, by simp⟩
  · exact ⟨xs, h, by simp; omega⟩
  · obtain ⟨xs, h1, h2⟩ := keep_tup r e
    exact ⟨xs, h1, h2.length⟩
  · obtain ⟨p, x', rfl, hp, rfl, y⟩ := y
    obtain ⟨xs, h1, h2⟩ := keep_tup r e
    obtain ⟨dx, hi', rfl⟩ := enum_get hi
    obtain ⟨v, e1, r1⟩ := h2.get hi'
    rw [y xs h1] at e1
    cases e1
    exact new_pair rs hp (.int _) r1
theorem wk_rng {μ1 : Mu} {H1 : Hp} {S0 : Store} {lo : Int} {n : Nat} : WkD K (Itr lo n) ((List.range n).map fun (k : Nat) => .int (lo + (k : Int))) none S0 μ1 H1 := by
  refine ⟨fun _ => True, fun i H x H' => H' = H ∧ x = .int (lo + i), ⟨fun i H hi _ => ?_, fun H _ => ?_, fun i H x H' _ _ y => y⟩, fun _ _ _ _ _ _ => trivial, fun i x H H' μ S d' hi rs e st y => ?_⟩
  · show i < n
    simpa using hi
  · show n ≤ _
    simp
  · obtain ⟨rfl, rfl⟩ := y
    by_cases hn : i < n
    · simp [hn] at hi
      subst hi
      exact ⟨rs, .refl, .int _⟩
    · simp [hn] at hi
theorem wk_rngd {μ1 : Mu} {H1 : Hp} {S0 : Store} {lo : Int} {n : Nat} : WkD K (Itc lo (-1) n) ((List.range n).map fun (k : Nat) => .int (lo - (k : Int))) none S0 μ1 H1 := by
  refine ⟨fun _ => True, fun i H x H' => H' = H ∧ x = .int (lo + (i : Nat) * (-1)), ⟨fun i H hi _ => ?_, fun H _ => ?_, fun i H x H' _ _ y => y⟩, fun _ _ _ _ _ _ => trivial, fun i x H H' μ S d' hi rs e st y => ?_⟩
  · show i < n
    simpa using hi
  · show n ≤ _
    simp
  · obtain ⟨rfl, rfl⟩ := y
    by_cases hn : i < n
    · simp [hn] at hi
      subst hi
      rw [show lo + (i : Nat) * (-1) = lo - (i : Int) by omega]
      exact ⟨rs, .refl, .int _⟩
    · simp [hn] at hi
theorem zip_get {xs ys : List D} {i : Nat} {d : D} (h : (List.zipWith (fun x y => PyData.tuple [x, y]) xs ys)[i]? = some d) : ∃ x y, xs[i]? = some x ∧ ys[i]? = some y ∧ d = .tuple [x, y] := by
  rw [List.getElem?_zipWith] at h
  cases hx : xs[i]? with
  | none => simp [hx] at h
  | some x =>
    cases hy : ys[i]? with
    | none => simp [hx, hy] at h
    | some y => simp [hx, hy] at h; exact ⟨x, y, rfl, rfl, h.symm⟩

/-- over a list or a tuple -/
theorem i_val (ha : PE X e (tE X.kw T F W xa)) : PI X tg e (tI X.kw T F W .val [xa]) := by
  refine ⟨fun pins s σ H R I h => ?_⟩
  have h' := imp_items h
  obtain ⟨μ, S, env, rs, re, h1⟩ := h'
  have h2 : Post X.kw T μ H (RV X.kw) (fun z H1 => ∃ a, z = .ref a ∧ ((∃ xs, SqL X.kw H1 a xs) ∧ R (Itl X.kw a) H1 ∨ (∃ xs, SqT X.kw H1 a xs) ∧ R (Itt X.kw a) H1)) (fun c o H' => W c o σ H') (ev F xa env S) := by
    have h3 : Post X.kw T μ H (RVs X.kw) (fun vs H1 => ∃ μ1 S1 ds p, RelS X.kw μ1 S1 H1 ∧ RepL X.kw μ1 H1 vs ds ∧ itemsV .val ds S1 = .ok p S1 ∧ ∀ J, WkD X.kw J p.1 p.2 S1 μ1 H1 → R J H1) (fun c o H' => W c o σ H') ((ev F xa env S).bind fun x S1 => .ok [x] S1) := by
      have e0 : evs F [xa] env S = (ev F xa env S).bind fun x S1 => .ok [x] S1 := by
        show (ev F xa env S).bind _ = _
        cases ev F xa env S <;> rfl
      rw [← e0]
      exact h1
    cases hr : ev F xa env S with
    | exc c d S' => rw [hr] at h3; exact h3
    | bad => rw [hr] at h3; exact h3
    | ok d S' =>
      rw [hr] at h3
      intro z μ' H' g1 g2 g3
      obtain ⟨μ1, S1, ds, p, rs1, r1, hp, q⟩ := h3 [z] μ' H' g1 g2 (.cons g3 .nil)
      match ds, hp with
      | [a], hp =>
        have ra : Rep X.kw μ1 H' z a := by cases r1 with | cons h _ => exact h
        simp only [itemsV, valI] at hp
        cases hs : seqOf S1 a with
        | none => rw [hs] at hp; cases hp
        | some xs =>
          rw [hs] at hp
          cases hp
          cases ra with
          | tup t1 l1 =>
            simp [seqOf] at hs
            subst hs
            exact ⟨_, rfl, .inr ⟨⟨_, t1⟩, q _ (wk_tup (.tup t1 l1))⟩⟩
          | lst t0 t1 l1 =>
            have hl : lstOf S1 (.list ‹List D›) = some xs := by simpa [seqOf, lstOf] using hs
            exact ⟨_, rfl, .inl ⟨⟨_, .inl (.inl t1)⟩, q _ (wk_list rs1 (.lst t0 t1 l1) hl)⟩⟩
          | rf t1 =>
            have hl : lstOf S1 (rf ‹Nat›) = some xs := by simpa [seqOf, lstOf] using hs
            obtain ⟨a, ys, e1, k1, k2⟩ := lst_of rs1 (.rf t1) hl
            cases e1
            exact ⟨_, rfl, .inl ⟨⟨_, k1⟩, q _ (wk_list rs1 (.rf t1) hl)⟩⟩
          | ro t1 =>
            have hl : lstOf S1 (ro ‹List Int›) = some xs := by simpa [seqOf, lstOf] using hs
            exact ⟨_, rfl, .inl ⟨⟨_, t1.sql⟩, q _ (wk_list rs1 (.ro t1) hl)⟩⟩
          | _ => simp [seqOf] at hs
      | [], hp => cases hp
      | _ :: _ :: _, hp => cases hp
  refine thn (ha.run pins s σ H _ I ⟨μ, S, env, rs, re, h2⟩) fun v s1 ⟨x, H1, I1, r1, a, ex, q1⟩ => ?_
  subst ex
  cases r1
  rcases q1 with ⟨⟨xs, hq⟩, q⟩ | ⟨⟨xs, hq⟩, q⟩
  · obtain ⟨its, rv, p, hz⟩ := I1.list hq
    refine wpAny_pyIter_list p.isList ⟨s1.heap.objs.size, [s1.heap.objs.size], _, _, H1, rfl, I1.kept (t' := s1.toks) fun b o e => Heap.get?_push_of_some _ e, turn_list a _, ⟨_, Heap.get?_push_size _ rfl, rfl, rfl⟩, fun b hb => ?_, q⟩
    obtain rfl : b = s1.heap.objs.size := by simpa using hb
    exact I1.fpOk (Nat.le_refl _) (I1.hok.fresh (Nat.le_refl _))
  · obtain ⟨its, rv, p, hz⟩ := I1.tuple hq
    refine wpAny_pyIter_tuple (show s1.heap.IsTuple a its.toArray from p) ⟨s1.heap.objs.size, [s1.heap.objs.size], _, _, H1, rfl, I1.kept (t' := s1.toks) fun b o e => Heap.get?_push_of_some _ e, turn_tuple a _, ⟨_, Heap.get?_push_size _ rfl, rfl, rfl⟩, fun b hb => ?_, q⟩
    obtain rfl : b = s1.heap.objs.size := by simpa using hb
    exact I1.fpOk (Nat.le_refl _) (I1.hok.fresh (Nat.le_refl _))
theorem i_rng1 {p : Pos} (hg : Gl X "range") (hm : X.mg "range" = none) (hn : notStar a = true) (ha : PA X [a] (tEs X.kw T F W [xa])) : PI X tg (.Call (.Name "range" p) [a] [] pos) (tI X.kw T F W .rng1 [xa]) := by
  refine PI_imp (pi_range1 hg hm ha (star_cons hn)) fun σ H R h => ?_
  obtain ⟨μ, S, env, rs, re, h⟩ := imp_items h
  refine ⟨μ, S, env, rs, re, h.mono fun vs H1 ⟨μ1, S1, ds, p, rs1, r1, hp, q⟩ => ?_⟩
  have hp : rng1I ds S1 = .ok p S1 := hp
  unfold rng1I at hp
  split at hp <;> try (cases hp; done)
  obtain ⟨z, rfl, rz⟩ := r1.one
  cases rz
  split at hp
  · rename_i j hj
    cases hp
    refine ⟨_, rfl, hj.1, hj.2.1, q _ ?_⟩
    have := wk_rng (K := X.kw) (μ1 := μ1) (H1 := H1) (S0 := S1) (lo := 0) (n := Int.toNat ‹Int›)
    simpa using this
  · cases hp
theorem i_rng2 {p : Pos} (hg : Gl X "range") (hm : X.mg "range" = none) (hn : notStar a = true) (hnb : notStar b = true) (ha : PA X [a, b] (tEs X.kw T F W [xa, xb])) : PI X tg (.Call (.Name "range" p) [a, b] [] pos) (tI X.kw T F W .rng2 [xa, xb]) := by
  refine PI_imp (pi_range2 hg hm ha (by rw [star_cons hn, star_cons hnb]; rfl) (star_cons hnb)) fun σ H R h => ?_
  obtain ⟨μ, S, env, rs, re, h⟩ := imp_items h
  refine ⟨μ, S, env, rs, re, h.mono fun vs H1 ⟨μ1, S1, ds, p, rs1, r1, hp, q⟩ => ?_⟩
  have hp : rng2I ds S1 = .ok p S1 := hp
  unfold rng2I at hp
  split at hp <;> try (cases hp; done)
  obtain ⟨z, y, rfl, rz, ry⟩ := r1.two
  cases rz
  cases ry
  split at hp
  · rename_i j hj
    cases hp
    exact ⟨_, _, rfl, hj.1, q _ wk_rng⟩
  · cases hp

theorem i_rngd {a b c : Expr} {xc : Ex} {p : Pos} (hg : Gl X "range") (hm : X.mg "range" = none) (hn : notStar a = true) (hnb : notStar b = true) (hnc : notStar c = true) (ha : PA X [a, b, c] (tEs X.kw T F W [xa, xb, xc])) : PI X tg (.Call (.Name "range" p) [a, b, c] [] pos) (tI X.kw T F W .rngd [xa, xb, xc]) := by
  refine PI_imp (pi_range3 hg hm ha (by rw [star_cons hn]) (by rw [star_cons hnb, star_cons hnc]; rfl)) fun σ H R h => ?_
  obtain ⟨μ, S, env, rs, re, h⟩ := imp_items h
  refine ⟨μ, S, env, rs, re, h.mono fun vs H1 ⟨μ1, S1, ds, p, rs1, r1, hp, q⟩ => ?_⟩
  have hp : rngdI ds S1 = .ok p S1 := hp
  unfold rngdI at hp
  split at hp <;> try (cases hp; done)
  split at hp
  · rename_i j hj
    cases hp
    cases r1 with
    | cons r1 r2 =>
      obtain ⟨z, y, rfl, rz, ry⟩ := r2.two
      cases r1
      cases rz
      cases ry
      exact ⟨_, _, _, _, rfl, RgC.neg hj.1.1 hj.1.2.1 hj.1.2.2.1 hj.1.2.2.2, q _ wk_rngd⟩
  · cases hp
theorem i_enum {elts : List Expr} {kk : Nat} {tpos p : Pos} (hg : Gl X "enumerate") (hm : X.mg "enumerate" = none) (hn : notStar a = true) (ha : PA X [a] (tEs X.kw T F W [xa])) : PI X (.Tuple elts kk tpos) (.Call (.Name "enumerate" p) [a] [] pos) (tI X.kw T F W .enum [xa]) := by
  refine ⟨fun pins s σ H R I h => ?_⟩
  obtain ⟨μ, S, env, rs, re, h⟩ := imp_items h
  refine Call_ (ld_blt I hg hm boot_enumerate (PyProof.Rows.callWith_type1 (thn (ha.run pos pins s σ H _ I ⟨μ, S, env, rs, re, h⟩) fun us s1 ⟨vs, H1, I1, rv, μ1, S1, ds, p, rs1, r1, hp, q⟩ => ?_) (star_cons hn) rfl))
  have hp : enumI ds S1 = .ok p S1 := hp
  obtain ⟨d, rfl⟩ : ∃ d, ds = [d] := by
    unfold enumI at hp
    split at hp
    · exact ⟨_, rfl⟩
    · cases hp
  obtain ⟨z, rfl, rz⟩ := r1.one
  obtain ⟨u, rfl, ru⟩ := vals1 rv
  simp only [enumI] at hp
  cases hs : seqOf S1 d with
  | none => rw [hs] at hp; cases hp
  | some xs =>
    rw [hs] at hp
    cases hp
    have hL : ∀ (a : Addr), z = .ref a → lstOf S1 d = some xs → wpAny (model X.prog X.w) X.A (call (.type "enumerate") ([] ++ [u])) (fun v s2 => wpAny (model X.prog X.w) X.A (pyIter v) (PIE X pins σ (.Tuple elts kk tpos) R) X.xe s2) X.xe s1 := by
      rintro a rfl hl
      obtain ⟨_, ys, e1, k1, k2⟩ := lst_of rs1 rz hl
      cases e1
      cases ru
      obtain ⟨its, rv', p', hz⟩ := I1.list k1
      refine call_enumerate_list p'.isList fun h' he hit hsz hk => wpAny_pyIter_enum he ?_
      have I2 : Inv X pins σ H1 { s1 with heap := h' } := I1.kept (t' := s1.toks) hk
      refine ⟨s1.heap.objs.size + 1, [s1.heap.objs.size + 1, s1.heap.objs.size], _, _, H1, rfl, I2, turn_enum a (s1.heap.objs.size + 1) s1.heap.objs.size, ⟨⟨.none, he⟩, hit, Nat.succ_ne_self _⟩, fun b hb => ?_, q _ (wk_enumL rs1 rz hl)⟩
      have hle : s1.heap.objs.size ≤ b := by
        rcases (show b = s1.heap.objs.size + 1 ∨ b = s1.heap.objs.size by simpa using hb) with z | z
        · rw [z]; exact Nat.le_add_right _ _
        · rw [z]; exact Nat.le_refl _
      exact I1.fpOk hle (I1.hok.fresh hle)
    cases rz with
    | tup t1 l1 =>
      rename_i a ys _
      cases ru
      simp [seqOf] at hs
      subst hs
      obtain ⟨its, rv', p', hz⟩ := I1.tuple t1
      refine enum_begins1 (begins_tuple a its.toArray) p' fun h' he hit hsz hk => wpAny_pyIter_enum he ?_
      have I2 : Inv X pins σ H1 { s1 with heap := h' } := I1.kept (t' := s1.toks) hk
      refine ⟨s1.heap.objs.size + 1, [s1.heap.objs.size + 1, s1.heap.objs.size], _, _, H1, rfl, I2, turn_enumT a (s1.heap.objs.size + 1) s1.heap.objs.size, ⟨⟨.none, he⟩, ⟨_, hit, rfl, rfl⟩, Nat.succ_ne_self _⟩, fun b hb => ?_, q _ (wk_enumT (.tup t1 l1))⟩
      have hle : s1.heap.objs.size ≤ b := by
        rcases (show b = s1.heap.objs.size + 1 ∨ b = s1.heap.objs.size by simpa using hb) with z | z
        · rw [z]; exact Nat.le_add_right _ _
        · rw [z]; exact Nat.le_refl _
      exact I1.fpOk hle (I1.hok.fresh hle)
    | lst t0 t1 l1 => exact hL _ rfl (by simpa [seqOf, lstOf] using hs)
    | rf t1 => exact hL _ rfl (by simpa [seqOf, lstOf] using hs)
    | ro t1 => exact hL _ rfl (by simpa [seqOf, lstOf] using hs)
    | _ => simp [seqOf] at hs
theorem wk_zipT {μ1 : Mu} {H1 : Hp} {S0 : Store} {a b : Addr} {xs ys : List D} (r : Rep K μ1 H1 (.ref a) (.tuple xs)) (r' : Rep K μ1 H1 (.ref b) (.tuple ys)) : WkD K (RZ.ItzT K a b) (List.zipWith (fun x y => .tuple [x, y]) xs ys) none S0 μ1 H1 := by
  refine ⟨fun H => ∃ us vs, SqT K H a us ∧ us.length = xs.length ∧ SqT K H b vs ∧ vs.length = ys.length, fun i H v H' => ∃ T x y, v = .ref T ∧ H T = none ∧ H' = upd H T (.tup [x, y]) ∧ (∀ xs, SqT K H a xs → xs[i]? = some x) ∧ ∀ ys, SqT K H b ys → ys[i]? = some y, ⟨fun i H hi ⟨us, vs, h, hl, h', hl'⟩ => ?_, fun H ⟨us, vs, h, hl, h', hl'⟩ => ?_, fun i H x H' _ _ y => y⟩, fun μ S H rs e st => ?_, fun i x H H' μ S d' hi rs e st y => ?_⟩
  · simp at hi
    exact ⟨us, vs, us[i]'(by omega), vs[i]'(by omega), h, h', by simp, by simp⟩
  · refine ⟨us, vs, h, h', ?_⟩
    simp
    omega
  · obtain ⟨us, h1, h2⟩ := keep_tup r e
    obtain ⟨vs, h3, h4⟩ := keep_tup r' e
    exact ⟨us, vs, h1, h2.length, h3, h4.length⟩
  · obtain ⟨p, x', y', rfl, hp, rfl, yx, yy⟩ := y
    obtain ⟨us, h1, h2⟩ := keep_tup r e
    obtain ⟨vs, h3, h4⟩ := keep_tup r' e
    obtain ⟨dx, dy, ex, ey, rfl⟩ := zip_get hi
    obtain ⟨v, e1, r1⟩ := h2.get ex
    obtain ⟨w, e2, r2⟩ := h4.get ey
    rw [yx us h1] at e1
    rw [yy vs h3] at e2
    cases e1; cases e2
    exact new_pair rs hp r1 r2
theorem wk_zipL {μ1 : Mu} {H1 : Hp} {S0 : Store} {a b : Addr} {d d2 : D} {xs ys : List D} (rs0 : RelS K μ1 S0 H1) (r : Rep K μ1 H1 (.ref a) d) (hd : lstOf S0 d = some xs) (r' : Rep K μ1 H1 (.ref b) d2) (hd2 : lstOf S0 d2 = some ys) (hb : locOf d2 = none) : WkD K (Itz K a b) (List.zipWith (fun x y => .tuple [x, y]) xs ys) (locOf d) S0 μ1 H1 := by
  have st2 : ∀ S, still (locOf d2) S0 S = true := fun S => by rw [hb]; rfl
  refine ⟨fun H => ∃ us vs, SqL K H a us ∧ us.length = xs.length ∧ SqL K H b vs ∧ vs.length = ys.length, fun i H v H' => ∃ T x y, v = .ref T ∧ H T = none ∧ H' = upd H T (.tup [x, y]) ∧ (∀ xs, SqL K H a xs → xs[i]? = some x) ∧ ∀ ys, SqL K H b ys → ys[i]? = some y, ⟨fun i H hi ⟨us, vs, h, hl, h', hl'⟩ => ?_, fun H ⟨us, vs, h, hl, h', hl'⟩ => ?_, fun i H x H' _ _ y => y⟩, fun μ S H rs e st => ?_, fun i x H H' μ S d' hi rs e st y => ?_⟩
  · simp at hi
    exact ⟨us, vs, us[i]'(by omega), vs[i]'(by omega), h, h', by simp, by simp⟩
  · refine ⟨us, vs, h, h', ?_⟩
    simp
    omega
  · obtain ⟨us, h1, h2⟩ := keep_lst rs0 r hd rs e st
    obtain ⟨vs, h3, h4⟩ := keep_lst rs0 r' hd2 rs e (st2 S)
    exact ⟨us, vs, h1, h2.length, h3, h4.length⟩
  · obtain ⟨p, x', y', rfl, hp, rfl, yx, yy⟩ := y
    obtain ⟨us, h1, h2⟩ := keep_lst rs0 r hd rs e st
    obtain ⟨vs, h3, h4⟩ := keep_lst rs0 r' hd2 rs e (st2 S)
    obtain ⟨dx, dy, ex, ey, rfl⟩ := zip_get hi
    obtain ⟨v, e1, r1⟩ := h2.get ex
    obtain ⟨w, e2, r2⟩ := h4.get ey
    rw [yx us h1] at e1
    rw [yy vs h3] at e2
    cases e1; cases e2
    exact new_pair rs hp r1 r2
theorem i_zip {elts : List Expr} {kk : Nat} {tpos p : Pos} (hg : Gl X "zip") (hm : X.mg "zip" = none) (hn : notStar a = true) (hnb : notStar b = true) (ha : PA X [a, b] (tEs X.kw T F W [xa, xb])) : PI X (.Tuple elts kk tpos) (.Call (.Name "zip" p) [a, b] [] pos) (tI X.kw T F W .zip [xa, xb]) := by
  refine PI_imp (RZ.pi_zipA hg hm ha (star_cons hn) (star_none (by simp [hnb]))) fun σ H R h => ?_
  obtain ⟨μ, S, env, rs, re, h⟩ := imp_items h
  refine ⟨μ, S, env, rs, re, h.mono fun vs H1 ⟨μ1, S1, ds, p, rs1, r1, hp, q⟩ => ?_⟩
  have hp : zipI ds S1 = .ok p S1 := hp
  unfold zipI at hp
  split at hp <;> try (cases hp; done)
  obtain ⟨z, y, rfl, rz, ry⟩ := r1.two
  split at hp
  · cases hp
    cases rz with
    | tup t1 l1 =>
    cases ry with
    | tup t2 l2 => exact ⟨_, _, _, _, rfl, .inr ⟨t1, t2, q _ (wk_zipT (.tup t1 l1) (.tup t2 l2))⟩⟩
  · split at hp
    · rename_i hx hy hb
      cases hp
      obtain ⟨a, us, rfl, k1, k2⟩ := lst_of rs1 rz hx
      obtain ⟨b, ws, rfl, k3, k4⟩ := lst_of rs1 ry hy
      exact ⟨_, _, _, _, rfl, .inl ⟨k1, k3, q _ (wk_zipL rs1 rz hx ry hy hb)⟩⟩
    · cases hp
end
end DL

set_option linter.all false
set_option maxRecDepth 100000
/-! DL.St: targets and statements, by data. -/
namespace DL
open PySem L2 PySem.Spec PyProof.Rows
/-- what is wanted behind a statement -/
def PostS (K : KW) (T : Tb) (μ : Mu) (H : Hp) (Dn : Ends) (W : WX) : Out → Prop
  | .nx env' S' => ∀ σ' μ' H', RelS K μ' S' H' → Ext K μ H μ' H' → RelE K μ' H' env' σ' → Dn.nx σ' H'
  | .bk env' S' => ∀ σ' μ' H', RelS K μ' S' H' → Ext K μ H μ' H' → RelE K μ' H' env' σ' → Dn.bk σ' H'
  | .ct env' S' => ∀ σ' μ' H', RelS K μ' S' H' → Ext K μ H μ' H' → RelE K μ' H' env' σ' → Dn.ct σ' H'
  | .rt d S' => ∀ z μ' H', RelS K μ' S' H' → Ext K μ H μ' H' → Rep K μ' H' z d → Dn.rt z H'
  | .exc c d env' S' => ∀ cls od σ' μ' H', ExcAt K T μ' H' c d cls od → RelS K μ' S' H' → Ext K μ H μ' H' → RelE K μ' H' env' σ' → W cls od σ' H'
  | .bad => False
section
variable {K : KW} {T : Tb} {F : FS} {W : WX} {μ μ1 : Mu} {H H1 : Hp} {Dn Dn' : Ends}
theorem PostS.ext {o : Out} (h : PostS K T μ H Dn W o) (e : Ext K μ H μ1 H1) : PostS K T μ1 H1 Dn W o := by
  cases o with
  | nx env S => exact fun σ' μ' H' h1 h2 h3 => h σ' μ' H' h1 (e.trans h2) h3
  | bk env S => exact fun σ' μ' H' h1 h2 h3 => h σ' μ' H' h1 (e.trans h2) h3
  | ct env S => exact fun σ' μ' H' h1 h2 h3 => h σ' μ' H' h1 (e.trans h2) h3
  | rt d S => exact fun z μ' H' h1 h2 h3 => h z μ' H' h1 (e.trans h2) h3
  | exc c d env S => exact fun cls od σ' μ' H' h0 h1 h2 h3 => h cls od σ' μ' H' h0 h1 (e.trans h2) h3
  | bad => exact h
theorem PostS.out {α β : Type} {R : Mu → Hp → β → α → Prop} {env : Env} {σ : L2.St} {r : Res α} {f : α → Store → Out} (re : RelE K μ H env σ) (h : PostS K T μ H Dn W (Res.out env r f)) :
    Post K T μ H R (fun z H1 => ∃ μ1 a S1, RelS K μ1 S1 H1 ∧ Ext K μ H μ1 H1 ∧ R μ1 H1 z a ∧ PostS K T μ1 H1 Dn W (f a S1)) (fun c o H' => W c o σ H') r := by
  cases r with
  | ok a S => exact fun z μ' H' h1 h2 h3 => ⟨μ', a, S, h1, h2, h3, h.ext h2⟩
  | exc c d S => exact fun cls od μ' H' h0 h1 h2 => h cls od σ μ' H' h0 h1 h2 (re.mono h2)
  | bad => exact h
/-- a statement's reading by its run -/
def tS (K : KW) (T : Tb) (F : FS) (W : WX) (st : Sm) : TS := fun Dn σ H => ∃ μ S env, RelS K μ S H ∧ RelE K μ H env σ ∧ PostS K T μ H Dn W (exec F st env S)
def tSs (K : KW) (T : Tb) (F : FS) (W : WX) (l : List Sm) : TS := fun Dn σ H => ∃ μ S env, RelS K μ S H ∧ RelE K μ H env σ ∧ PostS K T μ H Dn W (execs F l env S)
theorem PS_imp {X : Cx} {st : Stmt} {t t' : TS} (h : PS X st t) (i : ∀ D σ H, t' D σ H → t D σ H) : PS X st t' := ⟨fun pins s σ H D I hw => h.run pins s σ H D I (i D σ H hw)⟩
theorem PSs_imp {X : Cx} {st : List Stmt} {t t' : TS} (h : PSs X st t) (i : ∀ D σ H, t' D σ H → t D σ H) : PSs X st t' := ⟨fun pins s σ H D I hw => h.run pins s σ H D I (i D σ H hw)⟩
variable {X : Cx} {e a b : Expr} {x xa xb : Ex} {pos : Pos} {st : Stmt} {rest sa sb : List Stmt} {y : Sm} {l la lb : List Sm}
theorem s_nil : PSs X [] (tSs X.kw T F W []) :=
  PSs_imp pss_nil fun D σ H ⟨μ, S, env, rs, re, h⟩ => h σ μ H rs .refl re
theorem s_cons (h1 : PS X st (tS X.kw T F W y)) (h2 : PSs X rest (tSs X.kw T F W l)) : PSs X (st :: rest) (tSs X.kw T F W (y :: l)) := by
  refine PSs_imp (pss_cons h1 h2) fun D σ H ⟨μ, S, env, rs, re, h⟩ => ⟨μ, S, env, rs, re, ?_⟩
  have h : PostS X.kw T μ H D W ((exec F y env S).seq fun env' S' => execs F l env' S') := h
  cases ho : exec F y env S with
  | nx env' S' => rw [ho] at h; exact fun σ' μ' H' h1 h2 h3 => ⟨μ', S', env', h1, h3, PostS.ext h h2⟩
  | bk env' S' => rw [ho] at h; exact h
  | ct env' S' => rw [ho] at h; exact h
  | rt d S' => rw [ho] at h; exact h
  | exc c d env' S' => rw [ho] at h; exact h
  | bad => rw [ho] at h; exact h
theorem s_pass : PS X (.Pass pos) (tS X.kw T F W .pass) := PS_imp ps_pass fun D σ H ⟨μ, S, env, rs, re, h⟩ => h σ μ H rs .refl re
theorem s_brk : PS X (.Break pos) (tS X.kw T F W .brk) := PS_imp ps_break fun D σ H ⟨μ, S, env, rs, re, h⟩ => h σ μ H rs .refl re
theorem s_cont : PS X (.Continue pos) (tS X.kw T F W .cont) := PS_imp ps_continue fun D σ H ⟨μ, S, env, rs, re, h⟩ => h σ μ H rs .refl re
theorem s_never : PS X st (tS X.kw T F W .never) := PS_imp ps_never fun D σ H ⟨μ, S, env, rs, re, h⟩ => h
theorem s_ret (he : PE X e (tE X.kw T F W x)) : PS X (.Return (some e) pos) (tS X.kw T F W (.ret x)) := by
  refine PS_imp (ps_ret he) fun D σ H ⟨μ, S, env, rs, re, h⟩ => ⟨μ, S, env, rs, re, (PostS.out (R := RV X.kw) re h).mono fun z H1 ⟨μ1, d, S1, rs1, e1, r1, h1⟩ => h1 z μ1 H1 rs1 .refl r1⟩
theorem s_retN : PS X (.Return none pos) (tS X.kw T F W (.ret (.c .none))) :=
  PS_imp ps_retN fun D σ H ⟨μ, S, env, rs, re, h⟩ => h .non μ H rs .refl .non
theorem s_exp (hs : swapsWith e none pos.line X.env = pure false) (he : PE X e (tE X.kw T F W x)) : PS X (.Expr e pos) (tS X.kw T F W (.exp x)) := by
  refine PS_imp (ps_expr he hs) fun D σ H ⟨μ, S, env, rs, re, h⟩ => ⟨μ, S, env, rs, re, (PostS.out (R := RV X.kw) re h).mono fun z H1 ⟨μ1, d, S1, rs1, e1, r1, h1⟩ => h1 σ μ1 H1 rs1 .refl (re.mono e1)⟩
theorem outB_eq {env : Env} {r : Res D} {f : Bool → Store → Out} : Res.outB env r f = Res.out env (r.test .ok) f := by
  cases r with
  | ok d S =>
    simp only [Res.outB, Res.out_ok, Res.test, Res.bind_ok]
    cases asBool d <;> rfl
  | exc c d S => rfl
  | bad => rfl
theorem s_ifs (ht : PT X e (tT X.kw T F W x)) (ha : PSs X sa (tSs X.kw T F W la)) (hb : PSs X sb (tSs X.kw T F W lb)) : PS X (.If e sa sb pos) (tS X.kw T F W (.ifs x la lb)) := by
  refine PS_imp (ps_if ht ha hb) fun D σ H ⟨μ, S, env, rs, re, h⟩ => ?_
  have h : PostS X.kw T μ H D W (Res.outB env (ev F x env S) fun k S1 => if k = true then execs F la env S1 else execs F lb env S1) := h
  rw [outB_eq] at h
  refine ⟨μ, S, env, rs, re, (PostS.out (R := RB) re h).mono fun k H1 ⟨μ1, k', S1, rs1, e1, r1, h1⟩ => ?_⟩
  cases (show k = k' from r1)
  cases k with
  | true => exact ⟨μ1, S1, env, rs1, re.mono e1, h1⟩
  | false => exact ⟨μ1, S1, env, rs1, re.mono e1, h1⟩
/-! ### targets -/
mutual
def tgSlots : Tg → List Nat
  | .nm i => [i]
  | .tup l => tgSlotsL l
def tgSlotsL : List Tg → List Nat
  | [] => []
  | t :: ts => tgSlots t ++ tgSlotsL ts
end
theorem wipe_out' {v : Option V} {i : Nat} : ∀ {vs : List Nat} {σ : L2.St}, i ∉ vs → L2.wipe (σ.set i v) vs = (L2.wipe σ vs).set i v
  | [], _, _ => rfl
  | w :: vs, σ, h => by
    simp only [List.mem_cons, not_or] at h
    show (L2.wipe (σ.set i v) vs).set w none = ((L2.wipe σ vs).set w none).set i v
    rw [wipe_out' h.2, List.set_comm _ _ h.1]
theorem wipe_in {v : Option V} {i : Nat} : ∀ {vs : List Nat} {σ : L2.St}, i ∈ vs → L2.wipe (σ.set i v) vs = L2.wipe σ vs
  | w :: vs, σ, h => by
    show (L2.wipe (σ.set i v) vs).set w none = (L2.wipe σ vs).set w none
    by_cases hi : i ∈ vs
    · rw [wipe_in hi]
    · rw [wipe_out' hi]
      rcases List.mem_cons.mp h with rfl | h
      · rw [List.set_set]
      · exact absurd h hi
theorem wipe_wipe {vs ws : List Nat} : ∀ {σ : L2.St}, (∀ i ∈ ws, i ∈ vs) → L2.wipe (L2.wipe σ ws) vs = L2.wipe σ vs := by
  induction ws with
  | nil => intros; rfl
  | cons w ws ih =>
    intro σ h
    show L2.wipe ((L2.wipe σ ws).set w none) vs = _
    rw [wipe_in (h w (by simp)), ih fun i hi => h i (by simp [hi])]
/-- only the slots in is may differ -/
def SameBut (is : List Nat) (σ σ' : L2.St) : Prop := ∀ vs, (∀ i ∈ is, i ∈ vs) → L2.wipe σ' vs = L2.wipe σ vs
def tG (K : KW) (t : Tg) : TG := fun v σ H Q => ∃ μ S env d env', RelS K μ S H ∧ RelE K μ H env σ ∧ Rep K μ H v d ∧ bindT t d env = some env' ∧ ∀ σ' μ' H', RelS K μ' S H' → Ext K μ H μ' H' → RelE K μ' H' env' σ' → SameBut (tgSlots t) σ σ' → Q σ' H'
def tGs (K : KW) (ts : List Tg) : TGs := fun vs σ H Q => ∃ μ S env ds env', RelS K μ S H ∧ RelE K μ H env σ ∧ RepL K μ H vs ds ∧ bindTs ts ds env = some env' ∧ ∀ σ' μ' H', RelS K μ' S H' → Ext K μ H μ' H' → RelE K μ' H' env' σ' → SameBut (tgSlotsL ts) σ σ' → Q σ' H'
theorem PG_imp {t t' : TG} (h : PG X e t) (i : ∀ v σ H Q, t' v σ H Q → t v σ H Q) : PG X e t' := ⟨fun pins s σ H v u Q I r hw => h.run pins s σ H v u Q I r (i v σ H Q hw)⟩
theorem PGs_imp {es : List Expr} {t t' : TGs} (h : PGs X es t) (i : ∀ v σ H Q, t' v σ H Q → t v σ H Q) : PGs X es t' := ⟨fun pins s σ H v u Q I r hw => h.run pins s σ H v u Q I r (i v σ H Q hw)⟩
theorem g_name {i : Nat} {nm : Str} (hN : X.N.Nodup) (hi : X.N[i]? = some nm) (hx : Loc X.env.scope nm) (hf : X.fn nm = true ∨ X.env.scope.names.lookup nm = some .local) : PG X (.Name nm pos) (tG X.kw (.nm i)) := by
  refine PG_imp (pg_name hN hi hx hf) fun v σ H Q ⟨μ, S, env, d, env', rs, re, r, hb, q⟩ => ?_
  cases hb
  exact q _ μ H rs .refl (re.set i r) fun vs h => wipe_in (h i (by simp [tgSlots]))
theorem gs_nil : PGs X [] (tGs X.kw []) := by
  refine PGs_imp pgs_nil fun v σ H Q ⟨μ, S, env, ds, env', rs, re, r, hb, q⟩ => ?_
  cases ds with
  | nil => cases hb; cases r; exact ⟨rfl, q σ μ H rs .refl re fun vs h => rfl⟩
  | cons d ds => cases hb
theorem asg_cons {es : List Expr} {env : PySem.Env} (h : notStar e = true) : assignEach (e :: es) env = (false, assign e env) :: assignEach es env := by
  cases e <;> first | rfl | (simp [notStar] at h)
theorem asg_len {env : PySem.Env} : ∀ {es : List Expr}, es.all notStar = true → (assignEach es env).length = es.length ∧ (assignEach es env).findIdx? (·.1) = none
  | [], _ => ⟨rfl, rfl⟩
  | e :: es, h => by
    simp only [List.all_cons, Bool.and_eq_true] at h
    obtain ⟨h1, h2⟩ := asg_len (es := es) (env := env) h.2
    rw [asg_cons h.1]
    refine ⟨by simp [h1], ?_⟩
    rw [List.findIdx?_cons]
    simp [h2]
theorem gs_cons {es : List Expr} {t : Tg} {ts : List Tg} (hn : notStar e = true) (h1 : PG X e (tG X.kw t)) (h2 : PGs X es (tGs X.kw ts)) : PGs X (e :: es) (tGs X.kw (t :: ts)) := by
  refine PGs_imp (pgs_cons h1 h2 (by rw [asg_cons hn]; rfl)) fun v σ H Q ⟨μ, S, env, ds, env', rs, re, r, hb, q⟩ => ?_
  cases ds with
  | nil => cases hb
  | cons d ds =>
    cases r with
    | cons r1 r2 =>
      have hb : (bindT t d env).bind (fun env2 => bindTs ts ds env2) = some env' := hb
      cases hb1 : bindT t d env with
      | none => rw [hb1] at hb; cases hb
      | some env2 =>
        rw [hb1] at hb
        refine ⟨_, _, rfl, μ, S, env, d, env2, rs, re, r1, hb1, fun σ2 μ2 H2 rs2 e2 re2 sb2 => ?_⟩
        exact ⟨μ2, S, env2, ds, env', rs2, re2, e2.monoL r2, hb, fun σ3 μ3 H3 rs3 e3 re3 sb3 => q σ3 μ3 H3 rs3 (e2.trans e3) re3 fun vs h => (sb3 vs fun i hi => h i (by simp [tgSlotsL, hi])).trans (sb2 vs fun i hi => h i (by simp [tgSlotsL, hi]))⟩
theorem bindTs_len : ∀ {ts : List Tg} {ds : List PyData} {env env' : Env}, bindTs ts ds env = some env' → ts.length = ds.length
  | [], [], _, _, _ => rfl
  | [], _ :: _, _, _, h => by cases h
  | _ :: _, [], _, _, h => by cases h
  | t :: ts, d :: ds, env, env', h => by
    have h : (bindT t d env).bind (fun env2 => bindTs ts ds env2) = some env' := h
    cases hb1 : bindT t d env with
    | none => rw [hb1] at h; cases h
    | some env2 =>
      rw [hb1] at h
      simp [bindTs_len h]
theorem g_tup {es : List Expr} {ts : List Tg} {k : Nat} (hc : X.calm = true) (hn : es.all notStar = true) (hl : es.length = ts.length) (h : PGs X es (tGs X.kw ts)) : PG X (.Tuple es k pos) (tG X.kw (.tup ts)) := by
  refine PG_imp (pg_tup (n := es.length) hc h (asg_len hn).1 (asg_len hn).2) fun v σ H Q ⟨μ, S, env, d, env', rs, re, r, hb, q⟩ => ?_
  cases r with
  | tup t1 l1 => exact ⟨_, _, rfl, t1, by rw [l1.length, hl, bindTs_len hb], μ, S, env, _, env', rs, re, l1, hb, q⟩
  | _ => simp [bindT] at hb
end
end DL

set_option linter.all false
set_option maxRecDepth 100000
/-! DL.St2: assignments, loops, comprehensions, by data. -/
namespace DL
open PySem L2 PySem.Spec PyProof.Rows
section
variable {K : KW} {T : Tb} {F : FS} {W : WX} {μ μ1 : Mu} {H H1 : Hp} {Dn Dn' : Ends} {X : Cx} {e tg a b o i : Expr} {x xa xb xo xi : Ex} {pos : Pos} {st : Stmt} {rest sa sb : List Stmt} {y : Sm} {l la lb : List Sm} {t : Tg}
/-- a value to a target -/
theorem asg_imp {σ : L2.St} (h : tS K T F W (.asg t x) Dn σ H) : tAsg (tE K T F W x) (tG K t) Dn σ H := by
  obtain ⟨μ, S, env, rs, re, h⟩ := h
  refine ⟨μ, S, env, rs, re, (PostS.out (R := RV K) re h).mono fun z H1 ⟨μ1, d, S1, rs1, e1, r1, h1⟩ => ?_⟩
  cases hb : bindT t d env with
  | none => rw [hb] at h1; exact h1.elim
  | some env' =>
    rw [hb] at h1
    exact ⟨μ1, S1, env, d, env', rs1, re.mono e1, r1, hb, fun σ' μ' H' h2 h3 h4 _ => h1 σ' μ' H' h2 h3 h4⟩
theorem notStar_each {env : PySem.Env} (h : notStar tg = true) : (assignEach [tg] env).map (·.2) = [assign tg env] := by rw [asg_cons h]; rfl
theorem s_asg (hn : notStar tg = true) (hs : swapsWithSole [tg] e pos.line X.env = pure false) (hw : swappedStores [tg] e X.env = pure none) (he : PE X e (tE X.kw T F W x)) (hg : PG X tg (tG X.kw t)) : PS X (.Assign [tg] e pos) (tS X.kw T F W (.asg t x)) :=
  PS_imp (ps_asg he hg hs hw (notStar_each hn)) fun Dn σ H h => asg_imp h
theorem s_set {j : Nat} {nm : Str} {pos' : Pos} (hN : X.N.Nodup) (hi : X.N[j]? = some nm) (hx : Loc X.env.scope nm) (he : PE X e (tE X.kw T F W x)) (hs : swapsWith e (some (.Name nm pos')) pos.line X.env = pure false) (hf : X.fn nm = true ∨ X.env.scope.names.lookup nm = some .local) :
    PS X (.Assign [.Name nm pos'] e pos) (tS X.kw T F W (.asg (.nm j) x)) := by
  refine PS_imp (ps_set hN hi hx he hs hf) fun Dn σ H h => ?_
  obtain ⟨μ, S, env, rs, re, h⟩ := h
  exact ⟨μ, S, env, rs, re, (PostS.out (R := RV X.kw) re h).mono fun z H1 ⟨μ1, d, S1, rs1, e1, r1, h1⟩ => h1 _ μ1 H1 rs1 .refl ((re.mono e1).set j r1)⟩
/-! ### a, b = x, y with plain local names -/
def setsL (σ : L2.St) : List Nat → List V → L2.St
  | i :: is, v :: vs => setsL (σ.set i (some v)) is vs
  | _, _ => σ
def setsE (env : Env) : List Nat → List PyData → Env
  | i :: is, v :: vs => setsE (env.set i (some v)) is vs
  | _, _ => env
theorem setsL_comm {v : V} {i : Nat} : ∀ {is : List Nat} {vs : List V} {σ : L2.St}, i ∉ is → setsL (σ.set i (some v)) is vs = (setsL σ is vs).set i (some v)
  | [], _, _, _ => by simp [setsL]
  | _ :: _, [], _, _ => by simp [setsL]
  | j :: is, w :: vs, σ, h => by
    simp only [List.mem_cons, not_or] at h
    show setsL ((σ.set i (some v)).set j (some w)) is vs = (setsL (σ.set j (some w)) is vs).set i (some v)
    rw [List.set_comm _ _ h.1, setsL_comm h.2]
theorem setsL_snoc {v : V} {i : Nat} : ∀ {is : List Nat} {vs : List V} {σ : L2.St}, is.length = vs.length → setsL σ (is ++ [i]) (vs ++ [v]) = (setsL σ is vs).set i (some v)
  | [], [], _, _ => rfl
  | [], _ :: _, _, h => by cases h
  | _ :: _, [], _, h => by cases h
  | j :: is, w :: vs, σ, h => setsL_snoc (is := is) (vs := vs) (by simpa using h)
theorem setsL_rev : ∀ {is : List Nat} {vs : List V} {σ : L2.St}, is.Nodup → is.length = vs.length → setsL σ is.reverse vs.reverse = setsL σ is vs
  | [], [], _, _, _ => rfl
  | [], _ :: _, _, _, h => by cases h
  | _ :: _, [], _, _, h => by cases h
  | j :: is, w :: vs, σ, hn, h => by
    rw [List.nodup_cons] at hn
    have hl : is.length = vs.length := by simpa using h
    rw [List.reverse_cons, List.reverse_cons, setsL_snoc (by simpa using hl), setsL_rev hn.2 hl]
    exact (setsL_comm hn.1).symm
theorem sets_rel : ∀ {is : List Nat} {vs : List V} {ds : List PyData} {env : Env} {σ : L2.St}, RelE K μ H env σ → RepL K μ H vs ds → RelE K μ H (setsE env is ds) (setsL σ is vs)
  | [], _, _, _, _, r, _ => by simpa [setsE, setsL] using r
  | i :: is, [], _, _, _, r, h => by cases h; exact r
  | i :: is, v :: vs, _, env, σ, r, h => by
    cases h with
    | cons h1 h2 => exact sets_rel (env := env.set i (some _)) (σ := σ.set i (some v)) (r.set i h1) h2
theorem bind_nms : ∀ {is : List Nat} {ds : List PyData} {env : Env}, is.length = ds.length → bindTs (is.map Tg.nm) ds env = some (setsE env is ds)
  | [], [], _, _ => rfl
  | [], _ :: _, _, h => by cases h
  | _ :: _, [], _, h => by cases h
  | i :: is, d :: ds, env, h => bind_nms (is := is) (ds := ds) (by simpa using h)
theorem Vals_rev : ∀ {vs : List V} {us : List Value}, Vals vs us → Vals vs.reverse us.reverse
  | [], _, .nil => .nil
  | v :: vs, _, .cons r t => by
    rw [List.reverse_cons, List.reverse_cons]
    exact (Vals_rev t).append (.cons r .nil)
/-- the stores, one by one -/
theorem stores_run {pins : List (Addr × Obj)} {H : Hp} {Q : Unit → Shared → Prop} (hN : X.N.Nodup) (nms : List Str) : ∀ {is : List Nat} {vs : List V} {us : List Value} {σ : L2.St} {s : Shared}, Inv X pins σ H s → Vals vs us → (∀ p ∈ is.zip nms, X.N[p.1]? = some p.2 ∧ X.env.scope.names.lookup p.2 = some .local) → is.length = nms.length → nms.length = vs.length →
    (∀ s', Inv X pins (setsL σ is vs) H s' → Q () s') → wpAny (model X.prog X.w) X.A (assignInOrder (nms.map fun n => bindName X.env n) us) Q X.xe s := by
  induction nms with
  | nil =>
    intro is vs us σ s I r _ h1 h2 q
    cases is with
    | nil =>
      cases vs with
      | nil => cases r; exact assignInOrder_nil (q s I)
      | cons v vs => cases h2
    | cons i is => cases h1
  | cons nm nms ih =>
    intro is vs us σ s I r h hl1 hl2 q
    cases is with
    | nil => cases hl1
    | cons i is =>
      cases vs with
      | nil => cases hl2
      | cons v vs =>
        cases r with
        | cons r1 r2 =>
          obtain ⟨h1, h2⟩ := h (i, nm) (by simp)
          refine assignInOrder_cons (wpAny_bindName (store_ok I hN h1 (.inl h2) r1 (fun s2 I2 => ?_) (.inr h2)))
          exact ih I2 r2 (fun p hp => h p (by simp [hp])) (by simpa using hl1) (by simpa using hl2) q
/-- the names of targets -/
def tgNames (ts : List Expr) : List Str := ts.filterMap fun
  | .Name id _ => some id
  | _ => none
theorem s_swap {ts es : List Expr} {is : List Nat} {nms : List Str} {k k2 : Nat} {pt pt2 : Pos} (hc : X.calm = true) (hN : X.N.Nodup) (hp : ∀ p ∈ is.zip nms, X.N[p.1]? = some p.2 ∧ X.env.scope.names.lookup p.2 = some .local) (hl : is.length = nms.length) (hnd : is.Nodup)
    (hs : swapsWithSole [.Tuple ts k pt] (.Tuple es k2 pt2) pos.line X.env = pure false) (hw : swappedStores [.Tuple ts k pt] (.Tuple es k2 pt2) X.env = pure (some nms)) (he : PE X (.Tuple es k2 pt2) (tE X.kw T F W x)) :
    PS X (.Assign [.Tuple ts k pt] (.Tuple es k2 pt2) pos) (tS X.kw T F W (.asg (.tup (is.map Tg.nm)) x)) := by
  refine ⟨fun pins s σ H Dn I h => ?_⟩
  obtain ⟨μ, S, env, rs, re, h⟩ := h
  rw [exec_Assign_arm]
  refine wpAny_bind (wpAny_standAt ?_)
  rw [hs]
  refine wpAny_bind (wpAny_pure ?_)
  rw [if_neg (by decide)]
  refine wpAny_bind (thn (he.run pins s σ H _ I ⟨μ, S, env, rs, re, PostS.out (R := RV X.kw) re h⟩) fun u s1 ⟨z, H1, I1, r1, μ1, d, S1, rs1, e1, rz, h1⟩ => ?_)
  rw [hw]
  refine wpAny_bind (wpAny_pure ?_)
  cases hb : bindT (.tup (is.map Tg.nm)) d env with
  | none => rw [hb] at h1; exact h1.elim
  | some env' =>
    rw [hb] at h1
    cases rz with
    | tup t1 l1 =>
      rename_i ad vs ds
      have hb : bindTs (is.map Tg.nm) ds env = some env' := hb
      have hlen : is.length = ds.length := by simpa using bindTs_len hb
      rw [bind_nms hlen] at hb
      cases hb
      cases r1
      obtain ⟨its, rv, ht, hz⟩ := I1.tuple t1
      show wpAny (model X.prog X.w) X.A (do rule "assign.swapped-stores"; let items ← unpackItems (.ref ad) nms.length none; assignInOrder (nms.reverse.map fun n => bindName X.env n) items.reverse; pure Flow.next) _ _ _
      have hsz : its.toArray.size = nms.length := by
        have := rv.length
        have := l1.length
        simp
        omega
      rw [← hsz]
      refine wpAny_bind (wpAny_rule (wpAny_bind (unpackItems_tuple (items := its.toArray) (I.ok.hd hc) ht fun h' hx' => ?_)))
      have I3 := I1.kept (h' := h') (t' := s1.toks) fun b o e => hx' b o (Nat.ne_of_lt (Heap.lt_size e)) e
      have hvl : is.length = vs.length := by rw [hlen, l1.length]
      refine wpAny_bind (stores_run hN _ I3 (vs := vs.reverse) (is := is.reverse) (by simpa using Vals_rev rv) (fun p hp' => ?_) (by simpa using hl) (by simp; omega) fun s' I4 => wpAny_pure ?_)
      · rw [List.zip_eq_zipWith, ← List.reverse_zipWith hl] at hp'
        exact hp p (by simpa [List.zip_eq_zipWith] using hp')
      · rw [setsL_rev hnd hvl] at I4
        exact ⟨_, _, I4, h1 _ μ1 H1 rs1 .refl (sets_rel (re.mono e1) l1)⟩
    | _ => simp [bindT] at hb

/-! ### o[i] = v; a name changed by an operator -/
theorem s_setS {ip : Pos} (hu : X.A.units + 200 < cLine) (hn : plainRecv tg = true ∨ True) (hs : notSlice i = true) (hss : swapsWithSole [.Subscript o i ip] e pos.line X.env = pure false) (hw : swappedStores [.Subscript o i ip] e X.env = pure none) (he : PE X e (tE X.kw T F W x)) (ho : PE X o (tE X.kw T F W xo)) (hi : PE X i (tE X.kw T F W xi)) :
    PS X (.Assign [.Subscript o i ip] e pos) (tS X.kw T F W (.setS xo xi x)) := by
  have hA : ∀ v, assign (.Subscript o i ip) X.env v = (do
      let ov ← holding [v] (eval o X.env)
      let iv ← holding [v, ov] (eval i X.env)
      standAt ip
      holding [v, ov, iv] (setItem ov iv v)
      release [v, ov, iv] []) := by
    intro v
    cases i <;> first | rfl | (simp [notSlice] at hs)
  refine PS_imp (ps_asg he (pg_sub ho hi (PSet.or set_list (set_dict hu)) hA) hss hw rfl) fun Dn σ H ⟨μ, S, env, rs, re, h⟩ => ?_
  refine ⟨μ, S, env, rs, re, (PostS.out (R := RV X.kw) re h).mono fun z H1 ⟨μ1, d, S1, rs1, e1, r1, h1⟩ => ?_⟩
  refine ⟨μ1, S1, env, rs1, re.mono e1, (PostS.out (R := RV X.kw) (re.mono e1) h1).mono fun zo H2 ⟨μ2, do_, S2, rs2, e2, r2, h2⟩ => ?_⟩
  refine ⟨μ2, S2, env, rs2, (re.mono e1).mono e2, (PostS.out (R := RV X.kw) ((re.mono e1).mono e2) h2).mono fun zi H3 ⟨μ3, di, S3, rs3, e3, r3, h3⟩ => ?_⟩
  cases hsv : setItemV do_ di d S3 with
  | none => rw [hsv] at h3; exact h3.elim
  | some S4 =>
    rw [hsv] at h3
    unfold setItemV at hsv
    split at hsv
    · rename_i n j hn
      cases hx : atL S3 n with
      | none => rw [hx] at hsv; cases hsv
      | some xs =>
        rw [hx] at hsv
        cases hk : ixN xs.length j with
        | none => simp [hk] at hsv
        | some k =>
          simp [hk] at hsv
          subst hsv
          cases r3
          obtain ⟨ad, vs, rfl, k1, k2, k3⟩ := loc_of rs3 (e3.mono _ _ r2) hn hx
          obtain ⟨g1, g2⟩ := rs3.set k1 (k3.set (e3.mono _ _ (e2.mono _ _ r1)) k)
          refine .inl ⟨ad, vs, j, k, rfl, rfl, k2, by rw [k3.length]; exact hk, ?_⟩
          exact h3 σ μ3 _ g1 g2 ((((re.mono e1).mono e2).mono e3).mono g2)
    · rename_i n ks hn
      cases hx : atK S3 n with
      | none => rw [hx] at hsv; cases hsv
      | some kvs =>
        rw [hx] at hsv
        simp only [Option.bind_some] at hsv
        split at hsv
        · rename_i hc
          simp only [Bool.and_eq_true, decide_eq_true_eq] at hc
          obtain ⟨⟨c1, c2⟩, c3⟩ := hc
          cases hsv
          obtain ⟨ad, xs, rfl, k1, k2, k3⟩ := dct_of rs3 (e3.mono _ _ r2) hn hx
          obtain ⟨nk, hnk⟩ := toKey_of c1
          have r4 := r3
          cases r3 with
          | tup t l =>
            refine .inr ⟨ad, _, xs, nk, _, kvs, μ3, rfl, rfl, k2, by rw [← k3.len]; exact c3, hnk, c2, r4, k3, fun u ru => ?_⟩
            obtain ⟨g1, g2⟩ := rs3.setK k1 (k3.put hnk c2 r4 ru (e3.mono _ _ (e2.mono _ _ r1)))
            exact h3 σ μ3 _ g1 g2 ((((re.mono e1).mono e2).mono e3).mono g2)
        · cases hsv
    · cases hsv
theorem ip_bin {op : Operator} (h : op = .Add ∨ op = .Sub ∨ op = .Mult) (m : Bool) : PIp X op (fun x y H Q => ∃ μ S i j d S', RelS X.kw μ S H ∧ x = .int i ∧ y = .int j ∧ binV op m (.int i) (.int j) S = .ok d S' ∧ ∀ z μ' H', RelS X.kw μ' S' H' → Ext X.kw μ H μ' H' → Rep X.kw μ' H' z d → Q z H') := by
  intro pins s σ H x y v u Q I rx ry ⟨μ, S, i, j, d, S', rs, e1, e2, e, q⟩
  rcases h with rfl | rfl | rfl
  · cases e
    exact iop_add pins s σ H x y v u Q I rx ry ⟨i, j, e1, e2, q _ _ _ rs .refl (.int _)⟩
  · cases e
    exact iop_sub pins s σ H x y v u Q I rx ry ⟨i, j, e1, e2, q _ _ _ rs .refl (.int _)⟩
  · simp only [binV] at e
    split at e
    · rename_i hc
      cases e
      refine iop_mul pins s σ H x y v u Q I rx ry ⟨i, j, e1, e2, ?_, q _ _ _ rs .refl (.int _)⟩
      rw [Bool.or_eq_true, small64_iff, small64_iff] at hc
      exact hc
    · cases e
/-! ### loops -/
theorem loop_post {o : Out} {f : Env → Store → Out} {N : L2.St → Hp → Prop} (h : PostS K T μ H Dn W (match o with
    | .nx env' S' => f env' S'
    | .ct env' S' => f env' S'
    | .bk env' S' => .nx env' S'
    | o => o)) (hN : ∀ env' S' σ' μ' H', RelS K μ' S' H' → Ext K μ H μ' H' → RelE K μ' H' env' σ' → PostS K T μ' H' Dn W (f env' S') → N σ' H') :
    PostS K T μ H { Dn with nx := N, ct := N, bk := Dn.nx } W o := by
  cases o with
  | nx env S => exact fun σ' μ' H' h1 h2 h3 => hN env S σ' μ' H' h1 h2 h3 (PostS.ext h h2)
  | ct env S => exact fun σ' μ' H' h1 h2 h3 => hN env S σ' μ' H' h1 h2 h3 (PostS.ext h h2)
  | bk env S => exact h
  | rt d S => exact h
  | exc c d env S => exact h
  | bad => exact h
theorem frl_eq {k : IK} {its : List Ex} {env : Env} {S : Store} : exec F (.frl t k its l) env S = Res.out env (evI F k its env S) fun p S2 =>
    forLoop p.1.2 p.2 (fun x env1 S3 => match bindT t x env1 with
      | none => .bad
      | some env2 => execs F l env2 S3) p.1.1 env S2 := by
  show Res.out env (evs F its env S) _ = _
  unfold evI
  cases evs F its env S with
  | ok vs S1 =>
    simp only [Res.out_ok, Res.bind_ok]
    cases hp : itemsV k vs S1 with
    | ok p S2 => obtain ⟨p1, p2⟩ := p; rfl
    | exc c d S2 => rfl
    | bad => rfl
  | exc c d S1 => rfl
  | bad => rfl
theorem s_frl {k : IK} {its : List Ex} {iter : Expr} {body : List Stmt} (hp : PassesOwn (model X.prog X.w) X.A X.env X.xe) (hc : X.calm = true) (hi : PI X tg iter (tI X.kw T F W k its)) (hg : PG X tg (tG X.kw t)) (hb : PSs X body (tSs X.kw T F W l))
    (hs : ∀ x, foldedSetIterable iter X.env x = pure x) : PS X (.For tg iter body [] pos) (tS X.kw T F W (.frl t k its l)) := by
  refine PS_imp (ps_for hp hc hi hg hb hs) fun Dn σ H ⟨μ, S, env, rs, re, h⟩ => ?_
  rw [frl_eq] at h
  refine ⟨μ, S, env, rs, re, (PostS.out (R := fun μ1 H1 (J : L2.It) p => WkD X.kw J p.1.1 p.1.2 p.2 μ1 H1) re h).mono fun J H1 ⟨μ1, ⟨⟨items, g⟩, S0⟩, S1, rs1, e1, ⟨G, Y, wk, wG, wY⟩, h1⟩ => ?_⟩
  simp only at wk wG wY h1
  refine for_it wk (fun i σ' H' => ∃ μ' S' env', RelS X.kw μ' S' H' ∧ Ext X.kw μ1 H1 μ' H' ∧ RelE X.kw μ' H' env' σ' ∧ PostS X.kw T μ' H' Dn W (forLoop g S0 (fun x env1 S3 => match bindT t x env1 with | none => .bad | some env2 => execs F l env2 S3) (items.drop i) env' S'))
    ⟨μ1, S1, env, rs1, .refl, re.mono e1, by simpa using h1⟩ (fun i σ' H' hi ⟨μ', S', env', rs', e', re', h'⟩ => ?_) (fun i x σ' H' H2 hi ⟨μ', S', env', rs', e', re', h'⟩ hy => ?_) (fun σ' H' ⟨μ', S', env', rs', e', re', h'⟩ => ?_)
  · refine wG μ' S' H' rs' e'.toMono ?_
    cases hs' : still g S0 S' with
    | true => rfl
    | false =>
      cases hd : items.drop i with
      | nil => rw [hd] at h'; unfold forLoop at h'; rw [hs'] at h'; exact h'.elim
      | cons d r => rw [hd] at h'; unfold forLoop at h'; rw [hs'] at h'; exact h'.elim
  · have hdr : items.drop i = items[i] :: items.drop (i + 1) := by rw [List.drop_eq_getElem_cons hi]
    rw [hdr] at h'
    unfold forLoop at h'
    cases hs' : still g S0 S' with
    | false => rw [hs'] at h'; exact h'.elim
    | true =>
      rw [hs'] at h'
      simp only [if_true] at h'
      obtain ⟨rs2, e2, r2⟩ := wY i x H' H2 μ' S' items[i] (by simp [hi]) rs' e'.toMono hs' hy
      cases hb : bindT t items[i] env' with
      | none => rw [hb] at h'; exact h'.elim
      | some env2 =>
        rw [hb] at h'
        simp only at h'
        refine ⟨μ', S', env', items[i], env2, rs2, re'.mono e2, r2, hb, fun σ3 μ3 H3 rs3 e3 re3 _ => ⟨μ3, S', env2, rs3, re3, ?_⟩⟩
        refine loop_post (PostS.ext (PostS.ext h' e2) e3) fun env4 S4 σ4 μ4 H4 rs4 e4 re4 p4 => ⟨μ4, S4, env4, rs4, ((e'.trans e2).trans e3).trans e4, re4, p4⟩
  · rw [List.drop_length] at h'
    unfold forLoop at h'
    split at h'
    · exact h' σ' μ' H' rs' .refl re'
    · exact h'.elim
theorem s_whl {c : Expr} {body : List Stmt} (hp : PassesOwn (model X.prog X.w) X.A X.env X.xe) (ht : PT X c (tT X.kw T F W x)) (hb : PSs X body (tSs X.kw T F W l)) : PS X (.While c body [] pos) (tS X.kw T F W (.whl x l)) := by
  refine PS_imp (ps_while hp ht hb) fun Dn σ H ⟨μ, S, env, rs, re, h⟩ => ?_
  refine ⟨fun m σ' H' => ∃ μ' S' env', RelS X.kw μ' S' H' ∧ RelE X.kw μ' H' env' σ' ∧ PostS X.kw T μ' H' Dn W (whlLoop (ev F x) (execs F l) m env' S'), ⟨whlMost, μ, S, env, rs, re, h⟩, fun m σ' H' ⟨μ', S', env', rs', re', h'⟩ => ?_⟩
  cases m with
  | zero => exact h'.elim
  | succ m =>
    have h' : PostS X.kw T μ' H' Dn W (Res.outB env' (ev F x env' S') fun k S1 => if k = true then (match execs F l env' S1 with
      | .nx env' S' => whlLoop (ev F x) (execs F l) m env' S'
      | .ct env' S' => whlLoop (ev F x) (execs F l) m env' S'
      | .bk env' S' => .nx env' S'
      | o => o) else .nx env' S1) := h'
    rw [outB_eq] at h'
    refine ⟨μ', S', env', rs', re', (PostS.out (R := RB) re' h').mono fun k H1 ⟨μ1, k', S1, rs1, e1, r1, h1⟩ => ?_⟩
    cases (show k = k' from r1)
    cases k with
    | true =>
      refine ⟨fun σ2 H2 => ∃ μ2 S2 env2, RelS X.kw μ2 S2 H2 ∧ RelE X.kw μ2 H2 env2 σ2 ∧ PostS X.kw T μ2 H2 Dn W (whlLoop (ev F x) (execs F l) m env2 S2), fun σ2 H2 h2 => ⟨m, Nat.lt_succ_self m, h2⟩, μ1, S1, env', rs1, re'.mono e1, ?_⟩
      exact loop_post h1 fun env2 S2 σ2 μ2 H2 rs2 e2 re2 p2 => ⟨μ2, S2, env2, rs2, re2, p2⟩
    | false => exact h1 σ' μ1 H1 rs1 .refl (re'.mono e1)
end
end DL

set_option linter.all false
set_option maxRecDepth 100000
/-! DL.Comp: list comprehensions, by data. -/
namespace DL
open PySem L2 PySem.Spec PyProof.Rows
/-- nothing may be raised -/
def W0 : WX := fun _ _ _ _ => False
section
variable {K : KW} {T : Tb} {F : FS} {W : WX} {μ μ1 : Mu} {H H1 : Hp} {X : Cx} {e tg iter elt c : Expr} {x : Ex} {pos : Pos} {t : Tg}
/-- a clause's tests -/
def tTs (K : KW) (T : Tb) (F : FS) (W : WX) (l : List Ex) : TT := fun σ H Q => ∃ μ S env, RelS K μ S H ∧ RelE K μ H env σ ∧ Post K T μ H RB Q (fun c o H' => W c o σ H') (evAll F l env S)
theorem forIn_no {env : PySem.Env} : ∀ (ifs : List Expr), (forIn ifs false fun c r => if r = true then do let ok ← isTrue c env (eval c env); pure (ForInStep.yield ok) else pure (ForInStep.yield r) : Sem Bool) = pure false
  | [] => rfl
  | c :: ifs => by
    rw [List.forIn_cons]
    show (pure (ForInStep.yield false) >>= _ : Sem Bool) = _
    rw [pure_bind]
    exact forIn_no ifs
theorem ts_nil : PTs X [] (tTs X.kw T F W []) := ⟨fun pins s σ H Q I ⟨μ, S, env, rs, re, h⟩ => pts_nil.run pins s σ H Q I (h true μ H rs .refl rfl)⟩
theorem ts_cons {ifs : List Expr} {l : List Ex} (h : PT X c (tT X.kw T F W x)) (hr : PTs X ifs (tTs X.kw T F W l)) : PTs X (c :: ifs) (tTs X.kw T F W (x :: l)) := by
  refine ⟨fun pins s σ H Q I ⟨μ, S, env, rs, re, h0⟩ => ?_⟩
  have h0 : Post X.kw T μ H RB Q (fun c o H' => W c o σ H') ((ev F x env S).test fun k S1 => if k = true then evAll F l env S1 else .ok false S1) := h0
  rw [test_bind] at h0
  rw [List.forIn_cons]
  show wpAny (model X.prog X.w) X.A ((do let ok ← isTrue c X.env (eval c X.env); pure (ForInStep.yield ok)) >>= _) _ _ s
  refine wpAny_bind (wpAny_bind (thn (h.run pins s σ H _ I ⟨μ, S, env, rs, re, Post.bind h0⟩) fun k s1 ⟨H1, I1, μ1, k', S1, rs1, e1, r1, h1⟩ => wpAny_pure ?_))
  cases (show k = k' from r1)
  cases k with
  | true => exact hr.run pins s1 σ H1 Q I1 ⟨μ1, S1, env, rs1, re.mono e1, h1⟩
  | false =>
    show wpAny (model X.prog X.w) X.A (forIn ifs false _) _ _ s1
    rw [forIn_no]
    exact wpAny_pure ⟨H1, I1, h1 false μ1 H1 rs1 .refl rfl⟩
theorem noexc_bind {α β : Type} (r : Res α) (f : α → Store → Res β) : (r.bind f).noexc = r.noexc.bind fun a S => (f a S).noexc := by cases r <;> rfl
/-- a run within a comprehension: what follows is still asked from where it began -/
theorem Post.step {α β γ δ : Type} {R : Mu → Hp → β → α → Prop} {R' : Mu → Hp → δ → γ → Prop} {Q : β → Hp → Prop} {E E' : XK} {r : Res γ} {f : γ → Store → Res α} {μ3 : Mu} {H3 : Hp} (h : Post K T μ H R Q E (r.noexc.bind f)) :
    Post K T μ3 H3 R' (fun z H4 => ∃ μ4 a S4, RelS K μ4 S4 H4 ∧ Ext K μ3 H3 μ4 H4 ∧ R' μ4 H4 z a ∧ Post K T μ H R Q E (f a S4)) E' r := by
  cases r with
  | ok a S => exact fun z μ' H' h1 h2 h3 => ⟨μ', a, S, h1, h2, h3, h⟩
  | exc c d S => exact h.elim
  | bad => exact h.elim
/-- the turns of a comprehension -/
def compF (F : FS) (own : List Nat) (t : Tg) (ifs : List Ex) (x : Ex) (env : Env) : D → Store → Res (Option D) := fun y S3 => match bindT t y (wipeE env own) with
  | none => .bad
  | some env' => (evAll F ifs env' S3).bind fun b S4 => if b = true then (ev F x env' S4).bind fun y S5 => .ok (some y) S5 else .ok none S4
theorem comp_eq {m : Bool} {own : List Nat} {k : IK} {its ifs : List Ex} {env : Env} {S : Store} : ev F (.comp m own t k its ifs x) env S = (evI F k its env S).bind fun p S2 => compEnd m p.1.2 p.2 (compF F own t ifs x env) p.1.1 S2 := by
  show (evs F its env S).bind _ = _
  unfold evI
  rw [bind_bind]
  cases evs F its env S with
  | ok vs S1 =>
    simp only [Res.bind_ok]
    cases hp : itemsV k vs S1 with
    | ok p S2 => obtain ⟨p1, p2⟩ := p; rfl
    | exc c d S2 => rfl
    | bad => rfl
  | exc c d S1 => rfl
  | bad => rfl
theorem compLoop_len {g : Option Nat} {S0 : Store} {f : D → Store → Res (Option D)} : ∀ {items acc : List D} {S S' : Store} {r : List D}, compLoop g S0 f items acc S = .ok r S' → acc.length ≤ r.length
  | [], acc, S, S', r, h => by
    unfold compLoop at h
    split at h
    · cases h; exact Nat.le_refl _
    · cases h
  | y :: ys, acc, S, S', r, h => by
    unfold compLoop at h
    split at h
    · cases hf : f y S with
      | ok o S1 =>
        rw [hf] at h
        have := compLoop_len (items := ys) h
        cases o with
        | none => exact this
        | some z => simp at this; omega
      | exc c d S1 => rw [hf] at h; cases h
      | bad => rw [hf] at h; cases h
    · cases h
/-- what follows the turns, the list not at a place of its own -/
def fin0 (acc : List D) (S' : Store) : Res D := if acc.length ≤ sizeLine then .ok (.list acc) S' else .bad
theorem e_comp0 {own : List (Str × Nat)} {k : IK} {its ifs : List Ex} (hsl : ∀ i ∈ tgSlots t, i ∈ own.map (·.2)) :
    ∀ σ H Q, tE X.kw T F W (.comp false (own.map (·.2)) t k its ifs x) σ H Q → tLc (tI X.kw T F W k its) (tG X.kw t) (tTs X.kw T F W0 ifs) (tE X.kw T F W0 x) (own.map (·.2)) σ H Q := by
  intro σ H Q ⟨μ, S, env, rs, re, h⟩
  rw [comp_eq] at h
  refine ⟨μ, S, env, rs, re, (Post.bind (R' := fun μ1 H1 (J : L2.It) p => WkD X.kw J p.1.1 p.1.2 p.2 μ1 H1) h).mono fun J H1 ⟨μ1, ⟨⟨items, g⟩, S0⟩, S1, rs1, e1, ⟨G, Y, wk, wG, wY⟩, h1⟩ D hD => ?_⟩
  simp only at wk wG wY h1
  have h1 : Post X.kw T μ1 H1 (RV X.kw) Q (fun c o H' => W c o σ H') ((compLoop g S0 (compF F (own.map (·.2)) t ifs x env) items [] S1).noexc.bind fin0) := h1
  have bad_of : ∀ {S' : Store} {acc r : List PyData}, still g S0 S' = false → Post X.kw T μ1 H1 (RV X.kw) Q (fun c o H' => W c o σ H') ((compLoop g S0 (compF F (own.map (·.2)) t ifs x env) r acc S').noexc.bind fin0) → False := by
    intro S' acc r hs h'
    cases r with
    | nil => unfold compLoop at h'; rw [hs] at h'; exact h'
    | cons d r => unfold compLoop at h'; rw [hs] at h'; exact h'
  obtain ⟨g1, g2⟩ := rs1.reserve (xs := []) hD
  have hrv : ∀ a ∈ μ1.rv, a ≠ D := fun a ha => by
    obtain ⟨_, o, e⟩ := rs1.rv a ha
    exact ne_of_none e hD
  refine lc_it wk (fun i H' => ∃ μ' S' acc vs, RelS X.kw μ' S' H' ∧ Mono X.kw μ1 H1 μ' H' ∧ μ'.rv = D :: μ1.rv ∧ (∀ a ∈ μ1.rv, H' a = H1 a) ∧ H' D = some (.lst vs) ∧ RepL X.kw μ' H' vs acc ∧ Post X.kw T μ1 H1 (RV X.kw) Q (fun c o H' => W c o σ H') ((compLoop g S0 (compF F (own.map (·.2)) t ifs x env) (items.drop i) acc S').noexc.bind fin0))
    ⟨_, S1, [], [], g1, g2, rfl, fun a ha => by rw [upd_ne (hrv a ha)], upd_same, .nil, by simpa using h1⟩ (fun i H' hi ⟨μ', S', acc, vs, rs', e', hv, hsm, hD', ra, h'⟩ => ?_) (fun i z H' H2 hi ⟨μ', S', acc, vs, rs', e', hv, hsm, hD', ra, h'⟩ hy => ?_) (fun H' ⟨μ', S', acc, vs, rs', e', hv, hsm, hD', ra, h'⟩ => ?_)
  · refine wG μ' S' H' rs' e' ?_
    cases hs' : still g S0 S' with
    | true => rfl
    | false => exact (bad_of hs' h').elim
  · have hdr : items.drop i = items[i] :: items.drop (i + 1) := by rw [List.drop_eq_getElem_cons hi]
    cases hs' : still g S0 S' with
    | false => exact (bad_of hs' h').elim
    | true =>
      obtain ⟨rs2, e2, r2⟩ := wY i z H' H2 μ' S' items[i] (by simp [hi]) rs' e' hs' hy
      rw [hdr] at h'
      unfold compLoop at h'
      rw [hs'] at h'
      simp only [if_true] at h'
      rw [noexc_bind, bind_bind] at h'
      have hDr : D ∈ μ'.rv := by rw [hv]; exact List.mem_cons_self
      -- wherever we go, the list so far and what was reserved stand
      have go : ∀ {μ3 : Mu} {H3 : Hp}, Ext X.kw μ' H' μ3 H3 → μ3.rv = D :: μ1.rv ∧ (∀ a ∈ μ1.rv, H3 a = H1 a) ∧ H3 D = some (.lst vs) ∧ RepL X.kw μ3 H3 vs acc := fun e3 =>
        ⟨e3.rv.trans hv, fun a ha => (e3.same a (by rw [hv]; exact List.mem_cons_of_mem _ ha)).trans (hsm a ha), (e3.same D hDr).trans hD', e3.monoL ra⟩
      cases hb : bindT t items[i] (wipeE env (own.map (·.2))) with
      | none =>
        have hf : compF F (own.map (·.2)) t ifs x env items[i] S' = .bad := by unfold compF; rw [hb]
        rw [hf] at h'
        exact h'.elim
      | some env2 =>
        have hf : compF F (own.map (·.2)) t ifs x env items[i] S' = (evAll F ifs env2 S').bind fun b S4 => if b = true then (ev F x env2 S4).bind fun y S5 => .ok (some y) S5 else .ok none S4 := by unfold compF; rw [hb]
        rw [hf, noexc_bind, bind_bind] at h'
        have reW : RelE X.kw μ' H2 (wipeE env (own.map (·.2))) (L2.wipe σ (own.map (·.2))) := (((re.mono e1).monoW (e'.trans e2.toMono))).wipe _
        refine ⟨μ', S', _, items[i], env2, rs2, reW, r2, hb, fun σ3 μ3 H3 rs3 e3 re3 sb3 => ⟨?_, ?_⟩⟩
        · rw [sb3 _ hsl]
          exact wipe_wipe fun i hi => hi
        · have e03 := e'.trans (e2.trans e3).toMono
          refine ⟨μ3, S', env2, rs3, re3, (Post.step (R' := RB) h').mono fun b H4 ⟨μ4, b', S4, rs4, e4, rb, h4⟩ => ?_⟩
          cases (show b = b' from rb)
          have e24 := (e2.trans e3).trans e4
          cases b with
          | false =>
            obtain ⟨k1, k2, k3, k4⟩ := go e24
            simp only [Bool.false_eq_true, if_false, Res.noexc_ok, Res.bind_ok] at h4
            exact ⟨μ4, S4, acc, vs, rs4, e03.trans e4.toMono, k1, k2, k3, k4, h4⟩
          | true =>
            simp only [if_true] at h4
            rw [noexc_bind, bind_bind] at h4
            simp only [if_true]
            refine ⟨μ4, S4, env2, rs4, re3.mono e4, (Post.step (R' := RV X.kw) h4).mono fun yv H5 ⟨μ5, yd, S5, rs5, e5, ry, h5⟩ => ?_⟩
            simp only [Res.noexc_ok, Res.bind_ok] at h5
            obtain ⟨k1, k2, k3, k4⟩ := go (e24.trans e5)
            have hlen : acc.length < sizeLine := by
              cases hcl : compLoop g S0 (compF F (own.map (·.2)) t ifs x env) (items.drop (i + 1)) (acc ++ [yd]) S5 with
              | ok r S6 =>
                rw [hcl] at h5
                have hl := compLoop_len hcl
                simp only [Res.noexc_ok, Res.bind_ok, fin0] at h5
                split at h5
                · simp at hl; omega
                · exact h5.elim
              | exc c d S6 => rw [hcl] at h5; exact h5.elim
              | bad => rw [hcl] at h5; exact h5.elim
            obtain ⟨q1, q2⟩ := rs5.grow (xs := vs ++ [yv]) (by rw [k1]; exact List.mem_cons_self) k3
            refine ⟨vs, k3, by rw [k4.length]; exact hlen, μ5, S5, acc ++ [yd], vs ++ [yv], q1, (e03.trans (e4.trans e5).toMono).trans q2, k1, fun a ha => ?_, upd_same, (q2.monoL k4).append (.cons (q2.mono _ _ ry) .nil), h5⟩
            rw [upd_ne (hrv a ha)]
            exact k2 a ha
  · rw [List.drop_length] at h'
    unfold compLoop at h'
    split at h'
    · simp only [Res.noexc_ok, Res.bind_ok, fin0] at h'
      split at h'
      · obtain ⟨q1, q2⟩ := rs'.unreserve (ρ := μ1.rv) (fun a ha => by rw [hv]; exact List.mem_cons_of_mem _ ha)
        refine h' _ _ H' q1 ⟨e'.trans q2, rfl, hsm⟩ (.lst ⟨?_, fun hm => hrv D hm rfl⟩ hD' (q2.monoL ra))
        exact (rs'.rv D (by rw [hv]; exact List.mem_cons_self)).1
      · exact h'.elim
    · exact h'.elim

/-- .. the list at a place of its own from the start -/
theorem e_comp1 {own : List (Str × Nat)} {k : IK} {its ifs : List Ex} (hsl : ∀ i ∈ tgSlots t, i ∈ own.map (·.2)) :
    ∀ σ H Q, tE X.kw T F W (.comp true (own.map (·.2)) t k its ifs x) σ H Q → tLc (tI X.kw T F W k its) (tG X.kw t) (tTs X.kw T F W0 ifs) (tE X.kw T F W0 x) (own.map (·.2)) σ H Q := by
  intro σ H Q ⟨μ, S, env, rs, re, h⟩
  rw [comp_eq] at h
  refine ⟨μ, S, env, rs, re, (Post.bind (R' := fun μ1 H1 (J : L2.It) p => WkD X.kw J p.1.1 p.1.2 p.2 μ1 H1) h).mono fun J H1 ⟨μ1, ⟨⟨items, g⟩, S0⟩, S1, rs1, e1, ⟨G, Y, wk, wG, wY⟩, h1⟩ D hD => ?_⟩
  simp only at wk wG wY h1
  have h1 : Post X.kw T μ1 H1 (RV X.kw) Q (fun c o H' => W c o σ H') ((compLoopM g S0 S1.length (compF F (own.map (·.2)) t ifs x env) items (S1 ++ [.lst []])).noexc.bind fun _ S' => .ok (rf S1.length) S') := h1
  have bad_of : ∀ {S' : Store} {r : List PyData}, still g S0 S' = false → Post X.kw T μ1 H1 (RV X.kw) Q (fun c o H' => W c o σ H') ((compLoopM g S0 S1.length (compF F (own.map (·.2)) t ifs x env) r S').noexc.bind fun _ S' => .ok (rf S1.length) S') → False := by
    intro S' r hs h'
    cases r with
    | nil => unfold compLoopM at h'; rw [hs] at h'; exact h'
    | cons d r => unfold compLoopM at h'; rw [hs] at h'; exact h'
  obtain ⟨g1, g2, g3⟩ := rs1.place (xs := []) (ds := []) hD .nil
  have hn0 : (μ1.pl ++ [D])[S1.length]? = some D := by rw [← rs1.len]; simp
  refine lc_it wk (fun i H' => ∃ μ' S', RelS X.kw μ' S' H' ∧ Ext X.kw μ1 H1 μ' H' ∧ μ'.pl[S1.length]? = some D ∧ Post X.kw T μ1 H1 (RV X.kw) Q (fun c o H' => W c o σ H') ((compLoopM g S0 S1.length (compF F (own.map (·.2)) t ifs x env) (items.drop i) S').noexc.bind fun _ S' => .ok (rf S1.length) S'))
    ⟨_, _, g1, g2, hn0, by simpa using h1⟩ (fun i H' hi ⟨μ', S', rs', e', hn, h'⟩ => ?_) (fun i z H' H2 hi ⟨μ', S', rs', e', hn, h'⟩ hy => ?_) (fun H' ⟨μ', S', rs', e', hn, h'⟩ => ?_)
  · refine wG μ' S' H' rs' e'.toMono ?_
    cases hs' : still g S0 S' with
    | true => rfl
    | false => exact (bad_of hs' h').elim
  · have hdr : items.drop i = items[i] :: items.drop (i + 1) := by rw [List.drop_eq_getElem_cons hi]
    cases hs' : still g S0 S' with
    | false => exact (bad_of hs' h').elim
    | true =>
      obtain ⟨rs2, e2, r2⟩ := wY i z H' H2 μ' S' items[i] (by simp [hi]) rs' e'.toMono hs' hy
      rw [hdr] at h'
      unfold compLoopM at h'
      rw [hs'] at h'
      simp only [if_true] at h'
      rw [noexc_bind, bind_bind] at h'
      have go : ∀ {μ3 : Mu} {H3 : Hp}, Ext X.kw μ' H' μ3 H3 → μ3.pl[S1.length]? = some D := fun e3 => by
        obtain ⟨ν, e⟩ := e3.pre
        obtain ⟨l, _⟩ := List.getElem?_eq_some_iff.mp hn
        rw [e, List.getElem?_append_left l]
        exact hn
      cases hb : bindT t items[i] (wipeE env (own.map (·.2))) with
      | none =>
        have hf : compF F (own.map (·.2)) t ifs x env items[i] S' = .bad := by unfold compF; rw [hb]
        rw [hf] at h'
        exact h'.elim
      | some env2 =>
        have hf : compF F (own.map (·.2)) t ifs x env items[i] S' = (evAll F ifs env2 S').bind fun b S4 => if b = true then (ev F x env2 S4).bind fun y S5 => .ok (some y) S5 else .ok none S4 := by unfold compF; rw [hb]
        rw [hf, noexc_bind, bind_bind] at h'
        have reW : RelE X.kw μ' H2 (wipeE env (own.map (·.2))) (L2.wipe σ (own.map (·.2))) := (((re.mono e1).mono (e'.trans e2))).wipe _
        refine ⟨μ', S', _, items[i], env2, rs2, reW, r2, hb, fun σ3 μ3 H3 rs3 e3 re3 sb3 => ⟨?_, ?_⟩⟩
        · rw [sb3 _ hsl]
          exact wipe_wipe fun i hi => hi
        · have e03 := e'.trans (e2.trans e3)
          refine ⟨μ3, S', env2, rs3, re3, (Post.step (R' := RB) h').mono fun b H4 ⟨μ4, b', S4, rs4, e4, rb, h4⟩ => ?_⟩
          cases (show b = b' from rb)
          have e24 := (e2.trans e3).trans e4
          cases b with
          | false =>
            simp only [Bool.false_eq_true, if_false, Res.noexc_ok, Res.bind_ok] at h4
            exact ⟨μ4, S4, rs4, e03.trans e4, go e24, h4⟩
          | true =>
            simp only [if_true] at h4
            rw [noexc_bind, bind_bind] at h4
            simp only [if_true]
            refine ⟨μ4, S4, env2, rs4, re3.mono e4, (Post.step (R' := RV X.kw) h4).mono fun yv H5 ⟨μ5, yd, S5, rs5, e5, ry, h5⟩ => ?_⟩
            simp only [Res.noexc_ok, Res.bind_ok] at h5
            cases hat : atL S5 S1.length with
            | none => rw [hat] at h5; exact h5.elim
            | some acc =>
              rw [hat] at h5
              simp only at h5
              split at h5
              · rename_i hlen
                have hn5 := go (e24.trans e5)
                obtain ⟨a, ws, k1, k2, k3⟩ := rs5.lst_at hat
                rw [hn5] at k1
                cases k1
                obtain ⟨q1, q2⟩ := rs5.set hn5 (k3.append (.cons ry .nil))
                exact ⟨ws, k2, by rw [k3.length]; exact hlen, μ5, _, q1, (e03.trans (e4.trans e5)).trans q2, hn5, h5⟩
              · exact h5.elim
  · rw [List.drop_length] at h'
    unfold compLoopM at h'
    split at h'
    · exact h' _ μ' H' rs' e' (.rf hn)
    · exact h'.elim
/-- a comprehension, whatever the list's place -/
theorem imp_comp {m : Bool} {own : List (Str × Nat)} {k : IK} {its ifs : List Ex} (hsl : ∀ i ∈ tgSlots t, i ∈ own.map (·.2)) :
    ∀ σ H Q, tE X.kw T F W (.comp m (own.map (·.2)) t k its ifs x) σ H Q → tLc (tI X.kw T F W k its) (tG X.kw t) (tTs X.kw T F W0 ifs) (tE X.kw T F W0 x) (own.map (·.2)) σ H Q := by
  cases m with
  | true => exact e_comp1 hsl
  | false => exact e_comp0 hsl
section
variable {m : Bool} {own : List (Str × Nat)} {scope : Scope} {k : IK} {its ifs : List Ex} {ifsE : List Expr}
theorem e_lc (hc : X.calm = true) (hN : X.N.Nodup) (hi : PI X tg iter (tI X.kw T F W k its)) (ok : BlkOk X.N X.env.scope scope own) (hsl : ∀ i ∈ tgSlots t, i ∈ own.map (·.2))
    (hg : ∀ (s : Shared) (H : Hp) (C : Addr) (cl : List (Str × Addr)) (fp : List Addr), PG (X.blk s H scope (compEnvC scope cl C X.env) fp) tg (tG X.kw t))
    (ht : ∀ (s : Shared) (H : Hp) (C : Addr) (cl : List (Str × Addr)) (fp : List Addr), PTs (X.blk s H scope (compEnvC scope cl C X.env) fp) ifsE (tTs X.kw T F W0 ifs))
    (he : ∀ (s : Shared) (H : Hp) (C : Addr) (cl : List (Str × Addr)) (fp : List Addr), PE (X.blk s H scope (compEnvC scope cl C X.env) fp) elt (tE X.kw T F W0 x))
    (hs : ∀ y, foldedSetIterable iter X.env y = pure y) : PE X (.ListComp elt [⟨tg, iter, ifsE, 0⟩] scope pos) (tE X.kw T F W (.comp m (own.map (·.2)) t k its ifs x)) :=
  PE_imp (pe_lc hc hN hi ok hg ht he hs) (imp_comp hsl)
theorem s_setLc {j : Nat} {nm : Str} {py spos : Pos} (hc : X.calm = true) (hN : X.N.Nodup) (hy : X.N[j]? = some nm) (hyl : X.env.scope.names.lookup nm = some .local) (hsw : swapsWith (.ListComp elt [⟨tg, iter, ifsE, 0⟩] scope pos) (some (.Name nm py)) spos.line X.env = pure true)
    (hi : PI X tg iter (tI X.kw T F W k its)) (ok : BlkOk X.N X.env.scope scope own) (hsl : ∀ i ∈ tgSlots t, i ∈ own.map (·.2))
    (hg : ∀ (s : Shared) (H : Hp) (C : Addr) (cl : List (Str × Addr)) (fp : List Addr), PG (X.blk s H scope (compEnvC scope cl C X.env) fp) tg (tG X.kw t))
    (ht : ∀ (s : Shared) (H : Hp) (C : Addr) (cl : List (Str × Addr)) (fp : List Addr), PTs (X.blk s H scope (compEnvC scope cl C X.env) fp) ifsE (tTs X.kw T F W0 ifs))
    (he : ∀ (s : Shared) (H : Hp) (C : Addr) (cl : List (Str × Addr)) (fp : List Addr), PE (X.blk s H scope (compEnvC scope cl C X.env) fp) elt (tE X.kw T F W0 x))
    (hs : ∀ y, foldedSetIterable iter X.env y = pure y) : PS X (.Assign [.Name nm py] (.ListComp elt [⟨tg, iter, ifsE, 0⟩] scope pos) spos) (tS X.kw T F W (.asg (.nm j) (.comp m (own.map (·.2)) t k its ifs x))) := by
  refine PS_imp (ps_setLc hc hN hy hyl hsw hi ok hg ht he hs) fun Dn σ H ⟨μ, S, env, rs, re, h⟩ => ?_
  refine imp_comp hsl σ H _ ⟨μ, S, env, rs, re, (PostS.out (R := RV X.kw) re h).mono fun z H1 ⟨μ1, d, S1, rs1, e1, r1, h1⟩ => h1 _ μ1 H1 rs1 .refl ((re.mono e1).set j r1)⟩
end
end
end DL

set_option linter.all false
set_option maxRecDepth 100000
/-! DL.More: isinstance. -/
namespace DL
open PySem L2 PySem.Spec PyProof.Rows
/-- the built-in classes that are asked for -/
def tyNm : Nat → String
  | 0 => "int"
  | 1 => "bool"
  | 2 => "tuple"
  | 3 => "str"
  | _ => "list"
/-- the built-in class of a datum that is no list -/
def tyD : D → String
  | .none => "NoneType"
  | .bool _ => "bool"
  | .int _ => "int"
  | .str _ => "str"
  | .tuple _ => "tuple"
  | _ => "list"
theorem kit_tab : ∀ t ≤ 4, (kitB "NoneType" (tyNm t) = some false) ∧ (kitB "bool" (tyNm t) = some (t == 0 || t == 1)) ∧ (kitB "int" (tyNm t) = some (t == 0)) ∧ (kitB "str" (tyNm t) = some (t == 3)) ∧ (kitB "tuple" (tyNm t) = some (t == 2)) ∧ (kitB "list" (tyNm t) = some (t == 4)) := by
  decide +kernel
section
variable {K : KW} {T : Tb} {F : FS} {W : WX} {X : Cx} {a : Expr} {xa : Ex} {pos : Pos} {μ : Mu} {S : Store} {H : Hp}
theorem isT_ok {t : Nat} {x : V} {d : D} {b : Bool} (ht : t ≤ 4) (rs : RelS K μ S H) (r : Rep K μ H x d) (h : isTy S t d = some b) : ∃ tv, TyX K H x tv ∧ PySem.W.kitOne K tv (.type (tyNm t)) = some b := by
  obtain ⟨k0, k1, k2, k3, k4, k5⟩ := kit_tab t ht
  cases r with
  | non =>
    refine ⟨_, .base .non, kit_ty ?_⟩
    rw [k0]
    unfold isTy at h
    match t, ht, h with
    | 0, _, h => simpa using h
    | 1, _, h => simpa using h
    | 2, _, h => simpa using h
    | 3, _, h => simpa using h
    | 4, _, h => simpa using h
  | bl c =>
    refine ⟨_, .base (.bl c), kit_ty ?_⟩
    rw [k1]
    unfold isTy at h
    match t, ht, h with
    | 0, _, h => simpa using h
    | 1, _, h => simpa using h
    | 2, _, h => simpa using h
    | 3, _, h => simpa using h
    | 4, _, h => simpa using h
  | int c =>
    refine ⟨_, .base (.int c), kit_ty ?_⟩
    rw [k2]
    unfold isTy at h
    match t, ht, h with
    | 0, _, h => simpa using h
    | 1, _, h => simpa using h
    | 2, _, h => simpa using h
    | 3, _, h => simpa using h
    | 4, _, h => simpa using h
  | str c =>
    refine ⟨_, .base (.str c), kit_ty ?_⟩
    rw [k3]
    unfold isTy at h
    match t, ht, h with
    | 0, _, h => simpa using h
    | 1, _, h => simpa using h
    | 2, _, h => simpa using h
    | 3, _, h => simpa using h
    | 4, _, h => simpa using h
  | tup t1 l1 =>
    refine ⟨.type "tuple", ?_, kit_ty ?_⟩
    · rcases t1 with (t1 | ⟨o, t1⟩) | ⟨o, its, n, e1, e2, _⟩
      · exact .base (.tup t1)
      · exact .fTuple t1
      · exact .kTuple e1 e2
    · rw [k4]
      unfold isTy at h
      match t, ht, h with
      | 0, _, h => simpa using h
      | 1, _, h => simpa using h
      | 2, _, h => simpa using h
      | 3, _, h => simpa using h
      | 4, _, h => simpa using h
  | lst t0 t1 l1 =>
    refine ⟨_, .base (.lst t1), kit_ty ?_⟩
    rw [k5]
    unfold isTy at h
    match t, ht, h with
    | 0, _, h => simpa using h
    | 1, _, h => simpa using h
    | 2, _, h => simpa using h
    | 3, _, h => simpa using h
    | 4, _, h => simpa using h
  | ro t1 =>
    refine ⟨.type "list", (by rcases t1 with ⟨o, t1⟩ | ⟨_, t1⟩ | ⟨o, its, n, k1, k2, _⟩; exact .base (.frz t1); exact .base (.lst t1); exact .kList k1 k2), kit_ty ?_⟩
    rw [k5]
    unfold isTy at h
    match t, ht, h with
    | 0, _, h => simpa [lstOf] using h
    | 1, _, h => simpa [lstOf] using h
    | 2, _, h => simpa [lstOf] using h
    | 3, _, h => simpa [lstOf] using h
    | 4, _, h => simpa [lstOf] using h
  | rf t1 =>
    rename_i ad n
    have hs : (lstOf S (rf n)).map (fun _ => t == 4) = some b := by
      unfold isTy at h
      match t, ht, h with
      | 0, _, h => simpa using h
      | 1, _, h => simpa using h
      | 2, _, h => simpa using h
      | 3, _, h => simpa using h
      | 4, _, h => simpa using h
    cases hl : lstOf S (rf n) with
    | none => rw [hl] at hs; cases hs
    | some xs =>
      rw [hl] at hs
      cases hs
      simp only [lstOf, Int.toNat_natCast] at hl
      obtain ⟨b', ws, e1, e2, e3⟩ := rs.lst_at hl
      rw [t1] at e1
      cases e1
      exact ⟨_, .base (.lst e2), kit_ty k5⟩
theorem tyBoot : ∀ t ≤ 4, bootBuiltins (Str.ofString (tyNm t)) = some (.type (tyNm t)) ∧ Str.ofString (tyNm t) ≠ "__name__" ∧ ((Str.ofString (tyNm t)) == ("__debug__" : Str)) = false := by
  intro t ht
  match t, ht with
  | 0, _ => exact ⟨by decide +kernel, by decide +kernel, by decide +kernel⟩
  | 1, _ => exact ⟨by decide +kernel, by decide +kernel, by decide +kernel⟩
  | 2, _ => exact ⟨by decide +kernel, by decide +kernel, by decide +kernel⟩
  | 3, _ => exact ⟨by decide +kernel, by decide +kernel, by decide +kernel⟩
  | 4, _ => exact ⟨by decide +kernel, by decide +kernel, by decide +kernel⟩
theorem nx_isT {t : Nat} {vs : List D} : NoExc (isTV t vs S) := by
  unfold isTV
  repeat' split
  all_goals first | exact nx_ok | exact nx_bad
theorem e_isT {t : Nat} {p q : Pos} (ht : t ≤ 4) (hg : Gl X "isinstance") (hm : X.mg "isinstance" = none) (hg2 : Gl X (Str.ofString (tyNm t))) (hm2 : X.mg (Str.ofString (tyNm t)) = none) (hn : notStar a = true) (ha : PE X a (tE X.kw T F W xa)) :
    PE X (.Call (.Name "isinstance" p) [a, .Name (Str.ofString (tyNm t)) q] [] pos) (tE X.kw T F W (.blt (.isT t) false [xa])) := by
  obtain ⟨b1, b2, b3⟩ := tyBoot t ht
  refine PE_imp (pe_callB call_isi hg hm (by decide +kernel) (pa_cons ha (pa_cons (pe_bltn (v := .ty (tyNm t)) hg2 hm2 b1 rfl b2 b3) pa_nil) (star_cons hn)) (by decide +kernel) (by decide +kernel) (star_cons hn) (star_none (by simp [notStar]))) fun σ H Q ⟨μ, S, env, rs, re, h⟩ => ?_
  have h : Post X.kw T μ H (RV X.kw) Q (fun c o H' => W c o σ H') ((ev F xa env S).bind fun d S1 => isTV t [d] S1) := by
    have e0 : ev F (.blt (.isT t) false [xa]) env S = (ev F xa env S).bind fun d S1 => isTV t [d] S1 := by
      show ((ev F xa env S).bind fun x S1 => (evs F [] env S1).bind fun xs S2 => .ok (x :: xs) S2).bind _ = _
      cases ev F xa env S <;> rfl
    rw [← e0]
    exact h
  refine ⟨μ, S, env, rs, re, (Post.bind h).mono fun x H1 ⟨μ1, d, S1, rs1, e1, r1, h1⟩ => ?_⟩
  obtain ⟨z, S', ez, q'⟩ := h1.ok_of nx_isT
  simp only [isTV] at ez
  cases hi : isTy S1 t d with
  | none => rw [hi] at ez; cases ez
  | some b =>
    rw [hi] at ez
    cases ez
    obtain ⟨tv, k1, k2⟩ := isT_ok ht rs1 r1 hi
    exact ⟨x, .ty (tyNm t), tv, _, b, rfl, .ty _, k1, k2, q' _ _ _ rs1 .refl (.bl b)⟩
end
end DL

set_option linter.all false
set_option maxRecDepth 100000
set_option maxHeartbeats 4000000
/-! DL.Set: sorted(set(xs)) of a list of ints, list(range(..)). -/
namespace DL
open PySem L2 PySem.Spec PyProof.Rows
/-- a new set's object -/
abbrev nset (w : World) : Obj := { cls := .type "set", dict := none, data := .set #[] 0 (.fresh 0 0 (!w.params.followText "set-order")) }
section
variable {P : Program} {w : World} {A : Around} {E : Value → Shared → Prop} {s : Shared}
set_option maxHeartbeats 8000000 in
/-- set(xs) of a list of ints -/
theorem set_lstI {l : Addr} {us : Array Value} (ns : List Int) {Q : Value → Shared → Prop} (hd : A.handled = none) (hL : s.heap.IsList l us) (hI : IntsAre us.toList ns) (few : ns.length + 1 < scanBound)
    (h : ∀ (h' : Heap) (tk c : Nat), SetR w h' s.heap.objs.size (fun j => decide (j ∈ ns)) c → c ≤ ns.length → (∀ b o, s.heap.get? b = some o → h'.get? b = some o) → Q (.ref s.heap.objs.size) { s with heap := h', toks := tk }) :
    wpAny (model P w) A (call (.type "set") [.ref l]) Q E s := by
  have z : us.size = ns.length := by rw [← IntsAre.length hI, Array.length_toList]
  obtain ⟨_, _, m1⟩ := F.called_set.mro
  have m2 := F.called_set.made; have m3 := F.called_set.sub; have m4 := F.called_set.notType; have m5 := F.called_set.canCreate; have m6 := F.typeCall_set_1 (.ref l)
  refine wpAny_call (codeAny_of_tree ?_)
  show wpAny _ _ (callAny (.type "set") _) _ _ _
  refine wpAny_pure ⟨Code.quiet_builtin _ (by decide +kernel), codeAny_builtin F.entry_type_call ?_⟩
  rw [Around.under_plain (weight_type_call_type "set" [.ref l] []) rfl]
  repeat (any_goals (first | assumption | wp_step))
  refine codeAny_mono (code_set_led1 (.ref l) (E := E) (Q₁ := fun o s1 => o = .ref s.heap.objs.size ∧ s1 = { s with heap := s.heap.push (nset w) }) ⟨rfl, rfl⟩) fun r s1 hr => ?_
  cases r with
  | error e => exact hr
  | ok f =>
    cases f with
    | ret ob =>
      obtain ⟨rfl, rfl⟩ := hr
      have gS : (s.heap.push (nset w)).get? s.heap.objs.size = some (nset w) := Heap.get?_push_size _ rfl
      have tS : Shared.TypeIs { s with heap := s.heap.push (nset w) } (.ref s.heap.objs.size) "set" := ⟨_, gS, rfl⟩
      have i1 := F.called_set.init.lookup; have i2 := F.called_set.init.bind (.ref s.heap.objs.size)
      repeat (any_goals (first | assumption | wp_step))
      refine codeAny_mono (codeAny_call_builtin (R := wants (fun r s2 => r = .none ∧ ∃ h' tk c, s2 = { s with heap := h', toks := tk } ∧ SetR w h' s.heap.objs.size (fun j => decide (j ∈ ns)) c ∧ c ≤ ns.length ∧ (∀ b o, s.heap.get? b = some o → h'.get? b = some o)) E)
        F.called_set.init.plain F.entry_set_init (check_set_init_1 tS ?_)) fun r2 s2 hr2 => ?_
      · obtain ⟨⟨c0, d0, t0, l0⟩, gl, hc, n0, hdt⟩ := hL
        simp only at hc hdt
        subst hc; subst hdt
        have gl2 : (s.heap.push (nset w)).get? l = some { cls := .type "list", dict := d0, data := .seq us n0, slots := l0 } := Heap.get?_push_of_some _ gl
        have e1 := F.sub_list_set; have e2 := F.sub_list_frozenset; have e3 : (Value.type "list" == Value.type "dict") = false := by decide
        have isL : (s.heap.push (nset w)).IsList l us := ⟨_, gl2, rfl, n0, rfl⟩
        unfold Builtin.«set.__init__» noKeywords Builtin.Frozenset.updateFrom
        generalize hit : pyIter = it
        wp_walk
        subst hit
        refine wpAny_pyIter_list isL (wpAny_bind (wpAny_runValue ?_))
        have lt : l < s.heap.objs.size := Heap.lt_size gl
        have sz : (s.heap.push (nset w)).objs.size = s.heap.objs.size + 1 := Heap.size_push ..
        have ne : l ≠ (s.heap.push (nset w)).objs.size := fun q => absurd (q.trans sz) (Nat.ne_of_lt (Nat.lt_succ_of_lt lt))
        have out : s.heap.objs.size ∉ [(s.heap.push (nset w)).objs.size, l] := by
          simp only [List.mem_cons, List.not_mem_nil, or_false, not_or]
          exact ⟨fun q => absurd (q.trans sz) (Nat.ne_of_lt (Nat.lt_succ_self _)), Nat.ne_of_gt lt⟩
        have each : ∀ (i : Nat) (v : Value), us[i]? = some v → ∃ k t, ns[i]? = some k ∧ v = .int k t := fun i v hv => by
          have hi : i < ns.length := by rw [← z]; exact (Array.getElem?_eq_some_iff.mp hv).1
          obtain ⟨t, e⟩ := PyProof.Rows.IntsAre.int_at hI i v (by rw [Array.getElem?_toList]; exact hv)
          exact ⟨ns[i], t, List.getElem?_eq_getElem hi, by rw [e, List.getD_eq_getElem?_getD, List.getElem?_eq_getElem hi] <;> rfl⟩
        refine set_update_ints ((Walks.list (by simp [hd] : A.in1.in1.in1.handled = none) _ l ne us).toS) s.heap.objs.size out ns z few each (us.size - 0) 0 _ (by omega) (Nat.zero_le _) ⟨⟨_, Heap.get?_push_size _ rfl, rfl, rfl⟩, (isL.push _)⟩ ?_ ?_
        · exact ⟨0, Nat.le_refl 0, setR_new_at (Heap.get?_push_of_some _ gS)⟩
        · intro s' c' mv hc' hS'
          obtain ⟨h', g2, d', tk', os'⟩ := s'
          obtain rfl : g2 = s.gens := mv.gens
          obtain rfl : d' = s.drawn := mv.drawn
          obtain rfl : os' = s.os := mv.os
          show wpAny _ _ _ _ _ _
          refine wpAny_pure ?_
          show wpAny _ _ (ret Value.none) _ _ _
          rw [z] at hc'
          refine wpAny_pure ⟨rfl, h', tk', c', rfl, hS', hc', fun b o e => ?_⟩
          have hb := Heap.lt_size e
          refine mv.heap b o ?_ (Heap.get?_push_of_some _ (Heap.get?_push_of_some _ e))
          have sz2 := sz
          simp only [List.mem_cons, List.not_mem_nil, or_false, not_or]
          exact ⟨Nat.ne_of_lt hb, fun q => absurd (q.trans sz) (Nat.ne_of_lt (Nat.lt_succ_of_lt hb))⟩
      · cases r2 with
        | error e => exact hr2
        | ok f2 =>
          cases f2 with
          | ret r =>
            obtain ⟨rfl, h', tk, c', rfl, k1, k2, k3⟩ := hr2
            repeat (any_goals (first | assumption | wp_step))
            exact h _ _ _ k1 k2 k3
          | _ => exact hr2.elim
    | _ => exact hr.elim
end
section
variable {X : Cx} {K : KW} {T : Tb} {F : FS} {W : WX} {a b : Expr} {xa xb : Ex} {m : Bool} {p p2 p3 pos : Pos}
def rSetL (K : KW) (w : World) : List V → Hp → VK → Prop := fun xs H Q => ∃ (l : Addr) (ns : List Int), xs = [V.ref l] ∧ (SqL K H l (ns.map V.int) ∨ SqT K H l (ns.map V.int)) ∧ ns.length < 64 ∧ ∀ q n, H q = none → n ≤ ns.length → Q (.ref q) (upd H q (SetO w q (fun j => decide (j ∈ ns)) n))
theorem scan64 {n : Nat} (h : n < 64) : n + 1 < scanBound := by unfold scanBound; omega
theorem cr_setL (hc : X.calm = true) : CallR X (.type "set") (rSetL X.kw X.w) := by
  intro pins s σ H xs us Q I r h
  obtain ⟨l, ns, rfl, hs, hl, q⟩ := h
  rw [Vals.ref1 r]
  have fin : ∀ (h' : Heap) (tk c : Nat), SetR X.w h' s.heap.objs.size (fun j => decide (j ∈ ns)) c → c ≤ ns.length → (∀ b o, s.heap.get? b = some o → h'.get? b = some o) → EP X pins σ Q (.ref s.heap.objs.size) { s with heap := h', toks := tk } := fun h' tk c k1 k2 k3 =>
    ⟨.ref _, upd H s.heap.objs.size (SetO X.w s.heap.objs.size (fun j => decide (j ∈ ns)) c), I.laid k3 (Nat.le_refl _) (setO_new k1), rfl, q _ _ (I.hok.fresh (Nat.le_refl _)) k2⟩
  rcases hs with hs | hs
  · obtain ⟨its, rv, pl, hz⟩ := I.list hs
    exact set_lstI ns (I.ok.hd hc) pl.isList (by simpa using ints_of_vals rv) (scan64 hl) fin
  · obtain ⟨its, rv, pl, hz⟩ := I.tuple hs
    exact call_set_tupI ns (I.ok.hd hc) pl (by simpa using ints_of_vals rv) (scan64 hl) fin
theorem mem_uins {x z : Int} : ∀ {l : List Int}, z ∈ uins x l ↔ z = x ∨ z ∈ l
  | [] => by simp [uins]
  | y :: r => by
    unfold uins
    split
    · simp
    · split
      · rename_i h; subst h; simp
      · simp [mem_uins (l := r)]
        constructor <;> (rintro (h | h | h) <;> simp [h])
theorem mem_usort {z : Int} : ∀ {l : List Int}, z ∈ usort l ↔ z ∈ l
  | [] => by simp [usort]
  | y :: r => by
    show z ∈ uins y (usort r) ↔ _
    rw [mem_uins, mem_usort (l := r)]
    simp
theorem uins_lt {x : Int} : ∀ {l : List Int}, l.Pairwise (· < ·) → (uins x l).Pairwise (· < ·)
  | [], _ => by simp [uins]
  | y :: r, h => by
    unfold uins
    obtain ⟨h1, h2⟩ := List.pairwise_cons.mp h
    split
    · rename_i c
      refine List.pairwise_cons.mpr ⟨fun z hz => ?_, h⟩
      rcases List.mem_cons.mp hz with e | e
      · omega
      · have := h1 z e; omega
    · split
      · exact h
      · refine List.pairwise_cons.mpr ⟨fun z hz => ?_, uins_lt h2⟩
        rcases mem_uins.mp hz with e | e
        · omega
        · exact h1 z e
theorem usort_lt : ∀ (l : List Int), (usort l).Pairwise (· < ·)
  | [] => by simp [usort]
  | y :: r => uins_lt (usort_lt r)
theorem asc_eq : ∀ {l k : List Int}, l.Pairwise (· < ·) → k.Pairwise (· < ·) → (∀ z, z ∈ l ↔ z ∈ k) → l = k
  | [], [], _, _, _ => rfl
  | [], y :: k, _, _, h => by have := (h y).mpr (by simp); simp at this
  | y :: l, [], _, _, h => by have := (h y).mp (by simp); simp at this
  | x :: l, y :: k, h1, h2, h => by
    obtain ⟨a1, a2⟩ := List.pairwise_cons.mp h1
    obtain ⟨b1, b2⟩ := List.pairwise_cons.mp h2
    have e : x = y := by
      have p := (h x).mp (by simp)
      have q := (h y).mpr (by simp)
      rcases List.mem_cons.mp p with p | p
      · exact p
      · rcases List.mem_cons.mp q with q | q
        · exact q.symm
        · have := a1 y q; have := b1 x p; omega
    subst e
    rw [asc_eq a2 b2 fun z => ?_]
    constructor
    · intro hz
      have := (h z).mp (List.mem_cons_of_mem _ hz)
      rcases List.mem_cons.mp this with e | e
      · have := a1 z hz; omega
      · exact e
    · intro hz
      have := (h z).mpr (List.mem_cons_of_mem _ hz)
      rcases List.mem_cons.mp this with e | e
      · have := b1 z hz; omega
      · exact e
theorem RepL.intsD {μ : Mu} {H : Hp} : ∀ (ns : List Int), RepL K μ H (ns.map V.int) (ns.map .int)
  | [] => .nil
  | i :: r => .cons (.int i) (RepL.intsD r)
theorem e_sortset (hc : X.calm = true) (hg : Gl X "sorted") (hm : X.mg "sorted" = none) (hg2 : Gl X "set") (hm2 : X.mg "set" = none) (hn : notStar a = true) (ha : PE X a (tE X.kw T F W xa)) :
    PE X (.Call (.Name "sorted" p) [.Call (.Name "set" p2) [a] [] p3] [] pos) (tE X.kw T F W (.blt .sortset m [xa])) := by
  refine PE_imp (pe_callB (cr_sortedSet hc) hg hm (by decide +kernel) (pa_cons (pe_callTy (cr_setL hc) hg2 hm2 boot_set (pa_cons ha pa_nil (star_cons hn)) (by decide +kernel) (by decide +kernel) (star_cons hn) rfl) pa_nil) (by decide +kernel) (by decide +kernel)) fun σ H Q ⟨μ, S, env, rs, re, h⟩ => ?_
  have e0 : ev F (.blt .sortset m [xa]) env S = (ev F xa env S).bind fun d S1 => sortsetV m [d] S1 := by
    show ((ev F xa env S).bind fun x S1 => (evs F [] env S1).bind fun xs S2 => .ok (x :: xs) S2).bind _ = _
    cases ev F xa env S <;> rfl
  rw [e0] at h
  refine ⟨μ, S, env, rs, re, (Post.bind h).mono fun x H1 ⟨μ1, d, S1, rs1, e1, r1, h1⟩ => ?_⟩
  obtain ⟨z, S', ez, q'⟩ := h1.ok_of (nx_blt (b := .sortset) (m := m) (vs := [d]))
  simp only [sortsetV] at ez
  cases hs : seqOf S1 d with
  | none => rw [hs] at ez; cases ez
  | some xs =>
    rw [hs] at ez
    simp only at ez
    cases hi : intsOf xs with
    | none => rw [hi] at ez; cases ez
    | some is =>
      rw [hi] at ez
      simp only at ez
      split at ez
      · rename_i hl
        obtain ⟨l, vs, rfl, k1, k2⟩ := seq_of rs1 r1 hs
        have exs := intsOf_eq hi
        subst exs
        have hv := k2.intsV
        subst hv
        refine ⟨l, is, rfl, k1, hl, fun p n hp hn => ?_⟩
        obtain ⟨rs2, e2⟩ := rs1.new (o := SetO X.w p (fun j => decide (j ∈ is)) n) hp
        refine ⟨p, _, n, rfl, upd_same, by omega, fun ns q pw mem len hq => ?_⟩
        have en : ns = usort is := asc_eq pw (usort_lt is) fun z => by rw [mem z, mem_usort]; simp
        subst en
        obtain ⟨_, q2⟩ := mk_ok rs2 (RepL.intsD _) ez fun z μ' H' a1 a2 a3 => q' z μ' H' a1 (e2.trans a2) a3
        exact q2 q hq
      · cases ez
theorem rg_rep {μ : Mu} {H : Hp} (i j : Int) : RepL K μ H (rgV i j) (rngD i j) := by
  unfold rgV rngD
  generalize (j - i).toNat = n
  generalize List.range n = l
  induction l with
  | nil => exact .nil
  | cons x r ih => exact .cons (.int _) ih
theorem e_lrng1 (hc : X.calm = true) (hg : Gl X "list") (hm : X.mg "list" = none) (hg2 : Gl X "range") (hm2 : X.mg "range" = none) (hn : notStar a = true) (ha : PE X a (tE X.kw T F W xa)) :
    PE X (.Call (.Name "list" p) [.Call (.Name "range" p2) [a] [] p3] [] pos) (tE X.kw T F W (.blt .lrng1 m [xa])) := by
  refine PE_imp (pe_listRg hc hg hm (prg_1 hg2 hm2 ha (star_cons hn))) fun σ H Q ⟨μ, S, env, rs, re, h⟩ => ?_
  have e0 : ev F (.blt .lrng1 m [xa]) env S = (ev F xa env S).bind fun d S1 => lrng1V m [d] S1 := by
    show ((ev F xa env S).bind fun x S1 => (evs F [] env S1).bind fun xs S2 => .ok (x :: xs) S2).bind _ = _
    cases ev F xa env S <;> rfl
  rw [e0] at h
  refine ⟨μ, S, env, rs, re, (Post.bind h).mono fun x H1 ⟨μ1, d, S1, rs1, e1, r1, h1⟩ => ?_⟩
  obtain ⟨z, S', ez, q'⟩ := h1.ok_of (nx_blt (b := .lrng1) (m := m) (vs := [d]))
  cases d with
  | int j =>
    simp only [lrng1V] at ez
    split at ez
    · rename_i hj
      cases r1
      refine ⟨j, rfl, ⟨by omega, by omega, by omega, by omega, by omega⟩, ?_⟩
      exact (mk_ok rs1 (rg_rep 0 j) ez q').2
    · cases ez
  | _ => cases ez
theorem e_lrng2 (hc : X.calm = true) (hg : Gl X "list") (hm : X.mg "list" = none) (hg2 : Gl X "range") (hm2 : X.mg "range" = none) (hn : notStar a = true) (hnb : notStar b = true) (ha : PE X a (tE X.kw T F W xa)) (hb : PE X b (tE X.kw T F W xb)) :
    PE X (.Call (.Name "list" p) [.Call (.Name "range" p2) [a, b] [] p3] [] pos) (tE X.kw T F W (.blt .lrng2 m [xa, xb])) := by
  refine PE_imp (pe_listRg hc hg hm (prg_2 hg2 hm2 ha hb (star_cons hn) (star_cons hnb) (star_none (by simp [hnb])))) fun σ H Q ⟨μ, S, env, rs, re, h⟩ => ?_
  have e0 : ev F (.blt .lrng2 m [xa, xb]) env S = (ev F xa env S).bind fun d S1 => (ev F xb env S1).bind fun d2 S2 => lrng2V m [d, d2] S2 := by
    show ((ev F xa env S).bind fun x S1 => ((ev F xb env S1).bind fun y S2 => (evs F [] env S2).bind fun ys S3 => .ok (y :: ys) S3).bind fun xs S2 => .ok (x :: xs) S2).bind _ = _
    cases ev F xa env S with
    | ok d S1 =>
      simp only [Res.bind_ok]
      cases ev F xb env S1 <;> rfl
    | _ => rfl
  rw [e0] at h
  refine ⟨μ, S, env, rs, re, (Post.bind h).mono fun x H1 ⟨μ1, d, S1, rs1, e1, r1, h1⟩ => ?_⟩
  refine ⟨μ1, S1, env, rs1, re.mono e1, (Post.bind h1).mono fun y H2 ⟨μ2, d2, S2, rs2, e2, r2, h2⟩ => ?_⟩
  obtain ⟨z, S', ez, q'⟩ := h2.ok_of (nx_blt (b := .lrng2) (m := m) (vs := [d, d2]))
  cases d with
  | int i =>
    cases d2 with
    | int j =>
      simp only [lrng2V] at ez
      split at ez
      · rename_i hj
        cases r1
        cases r2
        refine ⟨i, j, rfl, rfl, ⟨by omega, by omega, by omega, by omega, by omega⟩, ?_⟩
        exact (mk_ok rs2 (rg_rep i j) ez q').2
      · cases ez
    | _ => cases ez
  | _ => cases ez
end
end DL

set_option linter.all false
set_option maxRecDepth 100000
/-! DL.Sw: which stores are swapped. -/
namespace DL
open PySem L2
def starred : Expr → Bool
  | .Starred .. => true
  | _ => false
/-- the plain local names among targets, on one line -/
def locNames (sc : Scope) (line : Nat) (ts : List Expr) : List Str := ts.filterMap fun
  | .Name id pos => if sc.names.lookup id == some .local && pos.line == line then some id else none
  | _ => none
def swapOf (sc : Scope) (ts vs : List Expr) : Option (Option (List Str)) :=
  if !(ts.length == 2 || ts.length == 3) || vs.length != ts.length then some none
  else if vs.any starred then some none
  else if (locNames sc ((ts.head?.map (·.pos.line)).getD 0) ts).length != ts.length || (locNames sc ((ts.head?.map (·.pos.line)).getD 0) ts).eraseDups.length != (locNames sc ((ts.head?.map (·.pos.line)).getD 0) ts).length then some none
  else if vs.all (foldedForSure 8) then some none
  else if vs.all (constantsAlone 8) then none
  else some (some (locNames sc ((ts.head?.map (·.pos.line)).getD 0) ts))
theorem starred_eq : (fun (e : Expr) => match e with | .Starred .. => true | _ => false) = starred := by
  funext e
  cases e <;> rfl
theorem swap_of {env : PySem.Env} {ts vs : List Expr} {k k2 : Nat} {p p2 : Pos} {r : Option (List Str)} (hk : env.scope.kind = .function) (h : swapOf env.scope ts vs = some r) : swappedStores [.Tuple ts k p] (.Tuple vs k2 p2) env = pure r := by
  have hb : (env.blockKind != .function) = false := by
    unfold PySem.Env.blockKind
    rw [hk]
    rfl
  unfold swappedStores
  simp only [hb, Bool.or_false, pure_bind]
  unfold swapOf at h
  have hloc : (ts.filterMap fun
    | .Name id pos => if env.kindOf id == some .local && pos.line == (ts.head?.map (·.pos.line)).getD 0 then some id else none
    | _ => none) = locNames env.scope ((ts.head?.map (·.pos.line)).getD 0) ts := rfl
  split at h
  · rename_i c1
    rw [if_pos c1]
    cases h; rfl
  · rename_i c1
    rw [if_neg c1]
    split at h
    · rename_i c2
      refine (if_pos c2).trans ?_
      cases h; rfl
    · rename_i c2
      refine (if_neg c2).trans ?_
      split at h
      · rename_i c3
        refine (if_pos c3).trans ?_
        cases h; rfl
      · rename_i c3
        refine (if_neg c3).trans ?_
        split at h
        · rename_i c4
          refine (if_pos c4).trans ?_
          cases h; rfl
        · rename_i c4
          refine (if_neg c4).trans ?_
          split at h
          · cases h
          · rename_i c5
            refine (if_neg c5).trans ?_
            cases h; rfl
end DL

set_option linter.all false
set_option maxRecDepth 100000
/-! DL.Ck: the check that a text of the small language says what the program's own text says. -/
namespace DL
open PySem L2
/-- a def that calls what it got, in a try -/
structure HrdS where
  told : Str
  N : List Str
  yes : List Nat
  l : List HS
/-- what is known of the module's names -/
structure Tabs where
  cst : List (Str × D)
  fns : List (Str × Nat)
  prs : Nat → List Str
  dfs : Nat → List D
  kws : Nat → List Nat
  bls : List Str
  kds : List (Str × List (Str × D)) := []
  exs : List (Str × Nat) := []
  exn : List Str := []
  exm : List ((Nat × Str) × Bool) := []
  exf : List (Nat × Str) := []
  ist : List ((Nat × Str) × Bool) := []
  hrd : List (Str × HrdS) := []
  lam : Bool := false
  lms : List Nat := []
/-- where no lambda is let -/
@[reducible] def Tabs.off (B : Tabs) : Tabs := { B with lam := false }
/-- a def's own -/
@[reducible] def Tabs.at (B : Tabs) (f : Nat) : Tabs := { B with lam := B.lms.contains f }
/-! ### the same suite -/
mutual
def beqH : HE → HE → Bool
  | .c a, .c b => beqD a b
  | .at_, .at_ => true
  | .is a, .is b => decide (a = b)
  | .v i, .v j => decide (i = j)
  | .and a b, .and x y => beqH a x && beqH b y
  | .or a b, .or x y => beqH a x && beqH b y
  | .not a, .not x => beqH a x
  | .ite t a b, .ite u x y => beqH t u && beqH a x && beqH b y
  | .tup l, .tup m => beqHL l m
  | _, _ => false
def beqHL : List HE → List HE → Bool
  | [], [] => true
  | a :: r, b :: s => beqH a b && beqHL r s
  | _, _ => false
end
mutual
theorem beqH_eq : ∀ {a b : HE}, beqH a b = true → a = b
  | .c a, b, h => by
    cases b <;> simp [beqH] at h
    rw [beqD_eq h]
  | .at_, b, h => by
    cases b <;> simp [beqH] at h
    rfl
  | .is a, b, h => by
    cases b <;> simp [beqH] at h
    rw [h]
  | .v a, b, h => by
    cases b <;> simp [beqH] at h
    rw [h]
  | .and a b, c, h => by
    cases c <;> simp [beqH] at h
    rw [beqH_eq h.1, beqH_eq h.2]
  | .or a b, c, h => by
    cases c <;> simp [beqH] at h
    rw [beqH_eq h.1, beqH_eq h.2]
  | .not a, c, h => by
    cases c <;> simp [beqH] at h
    rw [beqH_eq h]
  | .ite t a b, c, h => by
    cases c <;> simp [beqH] at h
    rw [beqH_eq h.1.1, beqH_eq h.1.2, beqH_eq h.2]
  | .tup l, c, h => by
    cases c <;> simp [beqH] at h
    rw [beqHL_eq h]
theorem beqHL_eq : ∀ {a b : List HE}, beqHL a b = true → a = b
  | [], b, h => by
    cases b <;> simp [beqHL] at h
    rfl
  | a :: r, b, h => by
    cases b <;> simp [beqHL] at h
    rw [beqH_eq h.1, beqHL_eq h.2]
end
def beqHS : List HS → List HS → Bool
  | [], [] => true
  | .set i a :: r, .set j b :: s => decide (i = j) && beqH a b && beqHS r s
  | .ret a :: r, .ret b :: s => beqH a b && beqHS r s
  | .ifr t a :: r, .ifr u b :: s => beqH t u && beqH a b && beqHS r s
  | _, _ => false
theorem beqHS_eq : ∀ {a b : List HS}, beqHS a b = true → a = b
  | [], b, h => by
    cases b <;> simp [beqHS] at h
    rfl
  | .set i a :: r, b, h => by
    rcases b with _ | ⟨b, s⟩
    · simp [beqHS] at h
    · cases b <;> simp [beqHS] at h
      rw [h.1.1, beqH_eq h.1.2, beqHS_eq h.2]
  | .ret a :: r, b, h => by
    rcases b with _ | ⟨b, s⟩
    · simp [beqHS] at h
    · cases b <;> simp [beqHS] at h
      rw [beqH_eq h.1, beqHS_eq h.2]
  | .ifr t a :: r, b, h => by
    rcases b with _ | ⟨b, s⟩
    · simp [beqHS] at h
    · cases b <;> simp [beqHS] at h
      rw [beqH_eq h.1.1, beqH_eq h.1.2, beqHS_eq h.2]
def dbg (x : Str) : Bool := x == ("__debug__" : Str)
def visB (sc : Scope) (x : Str) : Bool := match sc.names.lookup x with
  | some .local => true
  | some .cell => true
  | some .free => true
  | _ => false
def glB (sc : Scope) (x : Str) : Bool := sc.names.lookup x == some .globalImplicit
/-- a built-in's name -/
def blB (B : Tabs) (sc : Scope) (x : Str) : Bool := glB sc x && B.bls.contains x
/-- constants -/
def ckC (B : Tabs) (sc : Scope) (d : D) : Expr → Bool
  | .Constant (.int i) _ _ => beqD d (.int i)
  | .Constant (.bool b) _ _ => beqD d (.bool b)
  | .Constant .none _ _ => beqD d .none
  | .Constant (.str x) _ _ => beqD d (.str x)
  | .Name x _ => glB sc x && !dbg x && (match B.cst.lookup x with
    | some d' => beqD d d'
    | none => false)
  | _ => false
def beqKd : List (Str × D) → List (Str × D) → Bool
  | [], [] => true
  | (a, x) :: r, (b, y) :: s => decide (a = b) && beqD x y && beqKd r s
  | _, _ => false
theorem beqKd_eq : ∀ {a b : List (Str × D)}, beqKd a b = true → a = b
  | [], [], _ => rfl
  | [], _ :: _, h => by cases h
  | _ :: _, [], h => by cases h
  | (a, x) :: r, (b, y) :: s, h => by
    simp only [beqKd, Bool.and_eq_true, decide_eq_true_eq] at h
    rw [h.1.1, beqD_eq h.1.2, beqKd_eq h.2]
/-! ### a suite's text -/
def nameOf : Expr → Option Str
  | .Name x _ => some x
  | _ => none
def namesOf : List Expr → Option (List Str)
  | [] => some []
  | e :: es => match nameOf e, namesOf es with
    | some x, some xs => some (x :: xs)
    | _, _ => none
def istAll (B : Tabs) (c : Nat) : List Str → Option Bool
  | [] => some false
  | y :: ys => match B.ist.lookup (c, y) with
    | some true => some true
    | some false => istAll B c ys
    | none => none
mutual
def ckH (B : Tabs) (N : List Str) (sc : Scope) (fi : Nat) (fx : Str) (yes : List Nat) : HE → Expr → Bool
  | .c d, e => ckC B sc d e
  | .at_, e => match e with
    | .Attribute (.Name x _) f _ => x == fx && yes.all fun c => B.exf.contains (c, f)
    | _ => false
  | .is tb, e => match e with
    | .Call (.Name g _) [.Name x _, .Name y _] [] _ => g == ("isinstance" : Str) && blB B sc g && x == fx && glB sc y && !dbg y && yes.all fun c => match B.ist.lookup (c, y) with
      | some b => tb.lookup c == some b
      | none => false
    | .Call (.Name g _) [.Name x _, .Tuple es _ _] [] _ => g == ("isinstance" : Str) && blB B sc g && x == fx && (match namesOf es with
      | some ys => (ys.all fun y => glB sc y && !dbg y) && decide (0 < ys.length ∧ ys.length ≤ 1000) && yes.all fun c => (ys.all fun y => (B.ist.lookup (c, y)).isSome) && (match istAll B c ys with
        | some b => tb.lookup c == some b
        | none => false)
      | none => false)
    | _ => false
  | .v i, e => match e with
    | .Name x _ => N[i]? == some x && visB sc x && !dbg x && !(x == ("__classdict__" : Str))
    | _ => false
  | .not a, e => match e with
    | .UnaryOp .Not l _ => ckH B N sc fi fx yes a l
    | _ => false
  | .and a b, e => match e with
    | .BoolOp .And [x, y] _ => ckH B N sc fi fx yes a x && ckH B N sc fi fx yes b y
    | .BoolOp .And (x :: y :: z :: r) p => ckH B N sc fi fx yes a x && ckH B N sc fi fx yes b (.BoolOp .And (y :: z :: r) p)
    | _ => false
  | .or a b, e => match e with
    | .BoolOp .Or [x, y] _ => ckH B N sc fi fx yes a x && ckH B N sc fi fx yes b y
    | .BoolOp .Or (x :: y :: z :: r) p => ckH B N sc fi fx yes a x && ckH B N sc fi fx yes b (.BoolOp .Or (y :: z :: r) p)
    | _ => false
  | .ite t a b, e => match e with
    | .IfExp x y z _ => ckH B N sc fi fx yes t x && ckH B N sc fi fx yes a y && ckH B N sc fi fx yes b z
    | _ => false
  | .tup l, e => match e with
    | .Tuple es _ _ => decide (l.length ≤ 1000) && ckHs B N sc fi fx yes l es
    | _ => false
def ckHs (B : Tabs) (N : List Str) (sc : Scope) (fi : Nat) (fx : Str) (yes : List Nat) : List HE → List Expr → Bool
  | [], [] => true
  | x :: xs, e :: es => notStar e && ckH B N sc fi fx yes x e && ckHs B N sc fi fx yes xs es
  | _, _ => false
end
def noComp : Expr → Bool
  | .ListComp .. => false
  | .SetComp .. => false
  | .DictComp .. => false
  | _ => true
def ckHS (B : Tabs) (N : List Str) (sc : Scope) (fi : Nat) (fx : Str) (yes : List Nat) : List HS → List Stmt → Bool
  | [], ss => ss.isEmpty
  | .set i e :: r, ss => match ss with
    | .Assign [.Name y _] ex _ :: ss => N[i]? == some y && sc.names.lookup y == some .local && decide (i ≠ fi) && noComp ex && ckH B N sc fi fx yes e ex && ckHS B N sc fi fx yes r ss
    | _ => false
  | .ret e :: r, ss => match ss with
    | .Return (some ex) _ :: ss => ckH B N sc fi fx yes e ex && ckHS B N sc fi fx yes r ss
    | _ => false
  | .ifr t e :: r, ss => match ss with
    | .If et [.Return (some er) _] [] _ :: ss => ckH B N sc fi fx yes t et && ckH B N sc fi fx yes e er && ckHS B N sc fi fx yes r ss
    | _ => false
/-- a def that calls what it got -/
def ckHrd (B : Tabs) (sc : Scope) (a : Str) (h : HrdS) : List Stmt → Bool
  | [.Try [.Return (some (.Tuple [.Constant (.str told) _ _, .Call (.Name x _) [] [] _] _ _)) _] [.ExceptHandler (some (.Name cl _)) (some f) (s0 :: ss) _] [] [] _] =>
    decide (told = h.told) && x == a && h.N[0]? == some a && visB sc a && !dbg a && !(a == ("__classdict__" : Str)) && glB sc cl && !dbg cl && B.exn.contains cl && (h.yes.all fun c => B.exm.contains ((c, cl), true)) &&
      (match h.N.findIdx? (· == f) with
        | some i => h.N[i]? == some f && sc.names.lookup f == some .local && decide (i ≠ 0) && !dbg f && !(f == ("__classdict__" : Str)) && ckHS B h.N sc i f h.yes h.l (s0 :: ss)
        | none => false)
  | _ => false
def noParams (p : Arguments) : Bool := p.posonlyargs.isEmpty && p.args.isEmpty && p.vararg.isNone && p.kwonlyargs.isEmpty && p.kw_defaults.isEmpty && p.kwarg.isNone && p.defaults.isEmpty
mutual
/-- targets of plain names -/
def ckT (N : List Str) (ok : Str → Bool) : Tg → Expr → Bool
  | .nm i, .Name x _ => N[i]? == some x && ok x
  | .tup ts, .Tuple es _ _ => ckTs N ok ts es
  | _, _ => false
def ckTs (N : List Str) (ok : Str → Bool) : List Tg → List Expr → Bool
  | [], [] => true
  | t :: ts, e :: es => notStar e && ckT N ok t e && ckTs N ok ts es
  | _, _ => false
end
/-- the walked thing's own arguments -/
def itArgs : IK → Expr → List Expr
  | .val, e => [e]
  | _, .Call _ es _ _ => es
  | _, _ => []
def notSet : Expr → Bool
  | .Set .. => false
  | _ => true
def isTupE : Expr → Bool
  | .Tuple .. => true
  | _ => false
def itNm : IK → Str
  | .rng1 => "range"
  | .rng2 => "range"
  | .enum => "enumerate"
  | .zip => "zip"
  | .rngd => "range"
  | .val => ""
/-- how many arguments -/
def itAr : IK → Nat
  | .rng1 => 1
  | .rng2 => 2
  | .enum => 1
  | .zip => 2
  | .rngd => 3
  | .val => 1
def ckIt (B : Tabs) (sc : Scope) (k : IK) (tg e : Expr) : Bool := match k with
  | .val => notSet e
  | k => match e with
    | .Call (.Name x _) es [] _ => x == itNm k && blB B sc x && es.length == itAr k && (k == .rng1 || k == .rng2 || k == .rngd || isTupE tg)
    | _ => false
def ownOf (N : List Str) (own : List Nat) : List (Str × Nat) := own.map fun i => ((N[i]?).getD "", i)
/-- target names of a comprehension's clause -/
def compOk (scope sc' : Scope) (x : Str) : Bool := sc'.names.lookup x == some .local || (scope.names.lookup x == some .cell && sc'.names.lookup x == some .cell)
/-- a built-in that is called -/
def bltOk (B : Tabs) (sc : Scope) (b : Blt) (x : Str) : Bool := match bltId b with
  | some (n, _) => x == Str.ofString n && blB B sc x
  | none => false
def mthOk (k : Mth) (m : Str) (na : Nat) : Bool := m == Str.ofString (mthId k) && (if k = .pop then na == 0 else na == 1)
mutual
def ck (B : Tabs) (N : List Str) (sc : Scope) : Ex → Expr → Bool
  | .c d, e => ckC B sc d e
  | .v i, e => match e with
    | .Name x _ => N[i]? == some x && visB sc x && !dbg x && !(x == ("__classdict__" : Str))
    | _ => false
  | .bin o m a b, e => match e with
    | .BinOp l o' r _ => decide (o = o') && ck B N sc a l && ck B N sc b r
    | _ => false
  | .cmp o a b, e => match e with
    | .Compare l [o'] [r] _ => decide (o = o') && !behindInMarks o r && ck B N sc a l && ck B N sc b r
    | _ => false
  | .chain o o2 a b c, e => match e with
    | .Compare l [o', o2'] [r, r2] _ => decide (o = o') && decide (o2 = o2') && !lastMarks [o, o2] [r, r2] && ck B N sc a l && ck B N sc b r && ck B N sc c r2
    | _ => false
  | .neg a, e => match e with
    | .UnaryOp .USub l _ => ck B N sc a l
    | _ => false
  | .not a, e => match e with
    | .UnaryOp .Not l _ => ck B N sc a l
    | _ => false
  | .and a b, e => match e with
    | .BoolOp .And [x, y] _ => ck B N sc a x && ck B N sc b y
    | .BoolOp .And (x :: y :: z :: r) p => ck B N sc a x && ck B N sc b (.BoolOp .And (y :: z :: r) p)
    | _ => false
  | .or a b, e => match e with
    | .BoolOp .Or [x, y] _ => ck B N sc a x && ck B N sc b y
    | .BoolOp .Or (x :: y :: z :: r) p => ck B N sc a x && ck B N sc b (.BoolOp .Or (y :: z :: r) p)
    | _ => false
  | .ite t a b, e => match e with
    | .IfExp x y z _ => ck B N sc t x && ck B N sc a y && ck B N sc b z
    | _ => false
  | .tup l, e => match e with
    | .Tuple es _ _ => cks B N sc l es
    | _ => false
  | .lst m l, e => match e with
    | .List es _ => cks B N sc l es
    | _ => false
  | .sub a b, e => match e with
    | .Subscript x y _ => notSlice y && ck B N sc a x && ck B N sc b y
    | _ => false
  | .dct0, e => match e with
    | .Dict [] [] _ => true
    | _ => false
  | .kd kvs a, e => match e with
    | .Subscript (.Name x _) y _ => notSlice y && glB sc x && !dbg x && (match B.kds.lookup x with
      | some k => beqKd kvs k
      | none => false) && ck B N sc a y
    | _ => false
  | .slc m a lo hi, e => match e with
    | .Subscript x (.Slice l h none _) _ => ck B N sc a x && (match l with
        | none => isAbs lo
        | some y => !isAbs lo && ck B N sc lo y) && (match h with
        | none => isAbs hi
        | some y => !isAbs hi && ck B N sc hi y)
    | _ => false
  | .call f l dd, e => match e with
    | .Call (.Name x _) es kws _ => glB sc x && !dbg x && B.fns.lookup x == some f && cks B N sc l (es ++ kws.map (·.value)) && es.all notStar && (match kws with
        | [] => decide (l.length ≤ (B.prs f).length) && decide ((B.prs f).length ≤ l.length + (B.dfs f).length) && beqL dd ((B.dfs f).drop (l.length + (B.dfs f).length - (B.prs f).length))
        | _ => beqL dd [] && kwAll kws && decide (kwNames kws = (B.prs f).drop es.length) && (B.kws f).contains es.length && decide (l.length = (B.prs f).length))
    | _ => false
  | .blt b m l, e => match e with
    | .Call (.Name x _) es [] _ => (match b with
      | .isT t => x == ("isinstance" : Str) && blB B sc x && decide (t ≤ 4) && !m && (match l, es with
        | [a], [y, .Name z _] => z == Str.ofString (tyNm t) && blB B sc z && notStar y && cks B N sc l [y]
        | _, _ => false)
      | .sortset => x == ("sorted" : Str) && blB B sc x && (match es with
        | [.Call (.Name y _) [z] [] _] => y == ("set" : Str) && blB B sc y && cks B N sc l [z]
        | _ => false)
      | .lrng1 => x == ("list" : Str) && blB B sc x && (match es with
        | [.Call (.Name y _) [z] [] _] => y == ("range" : Str) && blB B sc y && cks B N sc l [z]
        | _ => false)
      | .lrng2 => x == ("list" : Str) && blB B sc x && (match es with
        | [.Call (.Name y _) [z, z2] [] _] => y == ("range" : Str) && blB B sc y && cks B N sc l [z, z2]
        | _ => false)
      | b => bltOk B sc b x && es.length == 1 + (if b = .max2 || b = .min2 then 1 else 0) && cks B N sc l es)
    | _ => false
  | .mth k o l, e => match e with
    | .Call (.Attribute y m ap) es [] p => mthOk k m es.length && plainRecv y && ap.endLine == p.line && ck B N sc o y && cks B N sc l es
    | _ => false
  | .comp m own t k its ifs elt, e => match e with
    | .ListComp elt' [⟨tg, iter, ifs', ia⟩] scope _ => decide (ia = 0) && blkC N sc scope (ownOf N own) && (tgSlots t).all own.contains && ckIt B sc k tg iter && cks B N sc its (itArgs k iter) && ckT N (compOk scope (relS scope sc)) t tg &&
        cks B.off N (relS scope sc) ifs ifs' && ck B.off N (relS scope sc) elt elt'
    | _ => false
  | .heard told sl yes l x, e => match e with
    | .Call (.Name g _) [.Lambda params body scope _] [] _ => B.lam && glB sc g && !dbg g && (match B.hrd.lookup g with
      | some h => decide (told = h.told) && decide (sl = h.N.length) && decide (yes = h.yes) && beqHS l h.l
      | none => false) && LamX.lamSB sc scope && noParams params && ck B.off N scope x body
    | _ => false
def cks (B : Tabs) (N : List Str) (sc : Scope) : List Ex → List Expr → Bool
  | [], [] => true
  | x :: xs, e :: es => notStar e && ck B N sc x e && cks B N sc xs es
  | _, _ => false
end
/-! ### statements -/
/-- is the comprehension's store exchanged? -/
def swB (sc : Scope) (x : Str) (line : Nat) : Expr → Bool
  | .ListComp _ _ s p => sc.names.lookup x == some .local && line == p.line && !(s.names.any fun (n, k) => n == x && (k == .local || k == .cell))
  | .SetComp .. => true
  | .DictComp .. => true
  | _ => false
def notComp : Expr → Bool
  | .ListComp .. => false
  | .SetComp .. => false
  | .DictComp .. => false
  | _ => true
def locB (sc : Scope) (x : Str) : Bool := sc.names.lookup x == some .local || sc.names.lookup x == some .cell
def nmSlots : List Tg → Option (List Nat)
  | [] => some []
  | .nm i :: ts => (nmSlots ts).map (i :: ·)
  | _ => none
def swOk (N : List Str) (sc : Scope) (ts : List Tg) (es vs : List Expr) : Bool := match swapOf sc es vs with
  | none => false
  | some none => true
  | some (some nms) => match nmSlots ts with
    | some is => decide (is.length = nms.length) && decide is.Nodup && (is.zip nms).all fun p => N[p.1]? == some p.2 && sc.names.lookup p.2 == some .local
    | none => false
mutual
def ckS (B : Tabs) (N : List Str) (sc : Scope) : Sm → Stmt → Bool
  | .asg t x, st => match st with
    | .Assign [.Name y py] e _ => ck B N sc x e && ckT N (locB sc) t (.Name y py) && (notComp e || !swB sc y py.line e || (match e with
        | .ListComp .. => true
        | _ => false))
    | .Assign [.Tuple es k p] e _ => notComp e && ck B N sc x e && ckT N (locB sc) t (.Tuple es k p) && (match t, e with
        | .tup ts, .Tuple vs _ _ => swOk N sc ts es vs
        | _, .Tuple _ _ _ => false
        | _, _ => true)
    | _ => false
  | .setS o i x, st => match st with
    | .Assign [.Subscript y z _] e _ => notComp e && notSlice z && ck B N sc o y && ck B N sc i z && ck B N sc x e
    | _ => false
  | .aug i o x, st => match st with
    | .AugAssign (.Name y _) o' e _ => N[i]? == some y && locB sc y && decide (o = o') && (o == .Add || o == .Sub || o == .Mult) && ck B N sc x e
    | _ => false
  | .ifs t a b, st => match st with
    | .If e sa sb _ => ck B N sc t e && ckSs B N sc a sa && ckSs B N sc b sb
    | _ => false
  | .whl t a, st => match st with
    | .While e sa [] _ => ck B N sc t e && ckSs B N sc a sa
    | _ => false
  | .frl t k its a, st => match st with
    | .For tg iter sa [] _ => ckIt B sc k tg iter && cks B N sc its (itArgs k iter) && ckT N (locB sc) t tg && ckSs B N sc a sa
    | _ => false
  | .ret x, st => match st with
    | .Return (some e) _ => ck B N sc x e
    | .Return none _ => (match x with
      | .c .none => true
      | _ => false)
    | _ => false
  | .exp x, st => match st with
    | .Expr e _ => notComp e && ck B N sc x e
    | _ => false
  | .pass, st => match st with
    | .Pass _ => true
    | _ => false
  | .brk, st => match st with
    | .Break _ => true
    | _ => false
  | .cont, st => match st with
    | .Continue _ => true
    | _ => false
  | .try0 b, st => match st with
    | .Try body (_ :: _) [] [] _ => ckSs B N sc b body
    | _ => false
  | .tryC b yes no hd, st => match st with
    | .Try body [.ExceptHandler (some (.Name x _)) none suite _] [] [] _ => glB sc x && !dbg x && ckSs B N sc b body && B.exn.contains x && (yes.all fun c => B.exm.contains ((c, x), true)) && (no.all fun c => B.exm.contains ((c, x), false)) && (match hd, suite with
        | .rc d, [.Return (some e) _] => ckC B sc d e
        | _, _ => false)
    | _ => false
  | .tryA b yes no i l, st => match st with
    | .Try body [.ExceptHandler (some (.Name x _)) (some f) (s0 :: ss) _] [] [] _ => glB sc x && !dbg x && ckSs B N sc b body && B.exn.contains x && (yes.all fun c => B.exm.contains ((c, x), true)) && (no.all fun c => B.exm.contains ((c, x), false)) &&
      N[i]? == some f && sc.names.lookup f == some .local && !dbg f && !(f == ("__classdict__" : Str)) && ckHS B N sc i f yes l (s0 :: ss)
    | _ => false
  | .raise c a, st => match st with
    | .Raise (some (.Call (.Name x _) [e] [] _)) none _ => glB sc x && !dbg x && B.exs.lookup x == some c && notStar e && ck B N sc a e
    | _ => false
  | .never, _ => true
def ckSs (B : Tabs) (N : List Str) (sc : Scope) : List Sm → List Stmt → Bool
  | [], [] => true
  | x :: xs, s :: ss => ckS B N sc x s && ckSs B N sc xs ss
  | _, _ => false
end
end DL

set_option Elab.async false
set_option linter.all false
set_option maxRecDepth 100000
set_option maxHeartbeats 4000000
/-! DL.Exc0: an own exception's __init__ that says super().__init__('..'); self.f = x. -/
namespace DL
open PySem L2 PySem.Spec PyProof.Rows PySem.W PySem.Calls
/-! ### ValueError.__init__ bound to an exception of an own class, called -/
section
variable {prog : Program} {w : World} {A : Around} {E : Value → Shared → Prop} {h : Heap} {g : Array GenState} {d : Drawn} {t : Nat} {os : OsState}
variable {nm q : Str} {C N : Addr} {bs bm : List Value} {hdct : Bool} {sn : List Str} {sub : List Value} {ab : Bool} {col : Option Bool} {dd : Option Addr} {k0 k1 k2 k3 k5 : Option Value}
theorem call_mw {u e t0 : Addr} {rest : List Value} {Q : Value → Shared → Prop}
    (hC : h.get? C = some (excClassObj nm q C N bs bm hdct sn sub ab col dd k0 k1 k2 k3 k5 "ValueError.__new__")) (he : h.get? e = some (HandSPX.excO C t0)) (hu : h.get? u = some (kxs_mw "ValueError.__init__" e)) (hrest : rest.length ≤ sizeLine)
    (hq : ∀ h' t1, (∀ b o, b ≠ e → h.get? b = some o → h'.get? b = some o) → h'.get? e = some (HandSPX.excO C t1) → Q .none ⟨h', g, d, t, os⟩) :
    wpAny (model prog w) A (call (.ref u) rest) Q E ⟨h, g, d, t, os⟩ := by
  refine wpAny_call (codeAny_of_tree ?_)
  show wpAny _ A.in1 (callAny (.ref u) ⟨rest, []⟩) _ _ _
  simp only [callAny]
  refine wpAny_bind (wpAny_load hu ?_)
  simp only [kxs_mw, show (Value.type "method-wrapper" == Value.type "method" || Value.type "method-wrapper" == Value.type "builtin_function_or_method" || Value.type "method-wrapper" == Value.type "method-wrapper") = true by decide, if_true]
  refine W.KFB.if_so (by decide) ?_
  refine wpAny_bind (check_bound_init F.excBase_ValueError.toExcCallFacts hC he rfl ?_)
  refine wpAny_bind (wpAny_pure (wpAny_pure ?_))
  refine ⟨Code.quiet_builtin _ (by decide +kernel), codeAny_builtin F.excBase_ValueError.initEntry ?_⟩
  rw [Around.under_plainId F.excBase_ValueError.init.plain _]
  wp_walk
  refine hq _ h.objs.size (fun b o hb ho => ?_) ?_
  · rw [Heap.get?_update_other _ _ (Ne.symm hb)]
    exact Heap.get?_push_of_some _ ho
  · rw [Heap.get?_update_self _ (Heap.get?_push_of_some _ he) rfl]
    rfl
end
end DL

set_option Elab.async false
set_option linter.all false
set_option maxRecDepth 100000
set_option maxHeartbeats 4000000
/-! DL.Exc1: the promise of such an __init__. -/
namespace DL
open PySem L2 PySem.Spec PyProof.Rows PySem.W PySem.Calls
/-- the body: super().__init__('m'); self.f = x -/
def initBody (pn f m : Str) (j : Nat) (p0 p1 p2 p3 p4 p5 p6 p7 p8 p9 : Pos) : List Stmt :=
  [.Expr (.Call (.Attribute (.Call (.Name "super" p0) [] [] p1) "__init__" p2) [.Constant (.str m) j p3] [] p4) p5,
   .Assign [.Attribute (.Name "self" p6) f p7] (.Name pn p8) p9]
structure ScI (scope : Scope) (pn : Str) : Prop where
  kind : scope.kind = .function
  co : scope.isCoroutine = false
  gen : scope.isGenerator = false
  sup : scope.names.lookup ("super" : Str) = some .globalImplicit
  cls : scope.names.lookup ("__class__" : Str) = some .free
  slf : scope.names.lookup ("self" : Str) = some .local
  par : scope.names.lookup pn = some .local
  ne : pn ≠ "self"
  dbg : (pn == ("__debug__" : Str)) = false
  cdc : (pn == ("__classdict__" : Str)) = false
  nocell : ∀ x ∈ scope.names, x.2 ≠ .cell
  free : ∀ x ∈ scope.names, x.2 = .free → x.1 = "__class__"
/-- what the written part says of an exception class of that kind -/
structure InitIs (P : Program) (K : Frag) (mg : Str → Option Value) (C fI cda cc : Addr) (fd : FuncData) (pn f : Str) : Prop where
  oex : OexC K C
  fn : ∃ name qual params scope m j p0 p1 p2 p3 p4 p5 p6 p7 p8 p9 dV kV doc pm an ct, fd = ksFn name qual params (initBody pn f m j p0 p1 p2 p3 p4 p5 p6 p7 p8 p9) scope dV kV doc pm an (.ref cda) ct cc ∧
    codeIn K (.ref cda) qual = true ∧ ScI scope pn ∧ (p2.endLine == p4.line) = true ∧ ∃ ar, (params.posonlyargs ++ params.args).head? = some ar ∧ ar.arg = "self"
  lk : ∃ oc od osl, K.lookup fI = some ⟨oc, od, .func fd, osl⟩
  code : ∃ ccl cdd ccs vs file tf, K.lookup cda = some ⟨ccl, cdd, .fields vs, ccs⟩ ∧ vs[2]? = some (.str file tf) ∧ ((P.main.file : Str) == file) = true
  cell : ∃ cl cld csl, K.lookup cc = some ⟨cl, cld, .cell (some (.ref C)), csl⟩
  sup : mg "super" = none
  opq : nsIn K cStatics "thirdparty.any" = some none
  sin : ks_superIn K C C "__init__" = some (some (.builtin "ValueError.__init__"))
  sub : subIn K (.ref C) (.type "ValueError") = some true
  mro : mroIn K C (.ref C) = some true
  nof : findIn K (.ref C) f = some none
  top : (P.main.scope.names.lookup ("super" : Str)).isSome = false
theorem super_he {m : Str} {j : Nat} {p0 p1 p2 p3 p4 : Pos} {env : PySem.Env} (hp : (p2.endLine == p4.line) = true) :
    eval (.Call (.Attribute (.Call (.Name "super" p0) [] [] p1) "__init__" p2) [.Constant (.str m) j p3] [] p4) env = (do
      let ov ← attributeBase (.Call (.Name "super" p0) [] [] p1) "__init__" env (eval (.Call (.Name "super" p0) [] [] p1) env)
      standAt p2.atName
      let (f, first) ← holding [ov] (getMethod ov "__init__" (do return (← importBound (.Call (.Name "super" p0) [] [] p1) env).getD true))
      callWith p4 f first (backTo p4 (starEach [.Constant (.str m) j p3] env)) []) := by
  have e : ∀ few : Bool, methodCallPos few (.Call (.Name "super" p0) [] [] p1) env p2 p4 = pure p4 := fun few => by
    unfold methodCallPos
    rw [hp, Bool.or_true, if_pos rfl]
  have e2 : ∀ ov : Value, methodCall (.Call (.Name "super" p0) [] [] p1) "__init__" p2 p4 env ov 1 (backTo p4 (starEach [.Constant (.str m) j p3] env)) [] = (do
      let (f, first) ← holding [ov] (getMethod ov "__init__" (do return (← importBound (.Call (.Name "super" p0) [] [] p1) env).getD true))
      callWith p4 f first (backTo p4 (starEach [.Constant (.str m) j p3] env)) []) := fun ov => by
    unfold methodCall
    simp only [e, pure_bind]
    rfl
  have e3 : eval (.Call (.Attribute (.Call (.Name "super" p0) [] [] p1) "__init__" p2) [.Constant (.str m) j p3] [] p4) env = (do
      let ov ← attributeBase (.Call (.Name "super" p0) [] [] p1) "__init__" env (eval (.Call (.Name "super" p0) [] [] p1) env)
      standAt p2.atName
      methodCall (.Call (.Name "super" p0) [] [] p1) "__init__" p2 p4 env ov 1 (backTo p4 (starEach [.Constant (.str m) j p3] env)) []) := rfl
  rw [e3]
  simp only [e2]
/-- the context of that body -/
def cxI (CX : CXT) (P : Program) (w : World) (K : Frag) (mg : Str → Option Value) (base : Heap) (pn qual : Str) (scope : Scope) (fI cda cc : Addr) (A : Around) (outer : List PySem.Env) (s : Shared) (H : Hp) (E : XK) : Cx where
  prog := P
  w := w
  K := K
  mg := mg
  base := base
  A := A.deeper (ksEnv qual scope s.heap.objs.size fI (.ref cda) cc)
  N := ["self", pn]
  s_0 := s
  H_0 := H
  env := ksEnv qual scope s.heap.objs.size fI (.ref cda) cc
  outer := outer
  stack := ksEnv qual scope s.heap.objs.size fI (.ref cda) cc :: outer
  ex := []
  calm := true
  fn := fun y => !(y == ("__class__" : Str))
  pn := []
  xe := fun e s' => wpAny (model P w) (A.deeper (ksEnv qual scope s.heap.objs.size fI (.ref cda) cc)) (leaving (ksEnv qual scope s.heap.objs.size fI (.ref cda) cc) e) (fun _ s'' => CX outer H s E e s'') (fun e' s'' => CX outer H s E e' s'') s'
section
variable {CX : CXT} {P : Program} {w : World} {K : Frag} {mg : Str → Option Value} {base : Heap} {pn f qual : Str} {scope : Scope} {fI cda cc C a : Addr} {A : Around} {outer : List PySem.Env} {s : Shared} {H : Hp} {E : XK} {y : V} {u : Value} {h0 : Heap} {t : Nat}
theorem lk_cls {x : Str} {c : Addr} {cc : Addr} (h : ([("__class__", cc)] : List (Str × Addr)).lookup x = some c) : x = "__class__" ∧ c = cc := by
  rw [List.lookup_cons] at h
  cases hb : x == ("__class__" : Str) with
  | true =>
    rw [hb] at h
    cases h
    exact ⟨eq_of_beq hb, rfl⟩
  | false =>
    rw [hb] at h
    cases h
theorem invI (S : ScI scope pn) (hd : A.handled = none) (e0 : Env0 P w K mg base A outer s H) (hcell : ∃ cl cld csl, K.lookup cc = some ⟨cl, cld, .cell (some (.ref C)), csl⟩) (ry : RelV y u)
    (hns : h0.Ns s.heap.objs.size (fun x => (([("self", .ref a), (pn, u)] : List (Str × Value)).reverse).lookup x)) (hk : ∀ b o, s.heap.get? b = some o → h0.get? b = some o) :
    Inv (cxI CX P w K mg base pn qual scope fI cda cc A outer s H E) [] [some (.ref a), some y] H { s with heap := h0, toks := t } := by
  obtain ⟨cl, cld, csl, hc⟩ := hcell
  have KX : K.In s.heap := e0.mod.kin.keeps fun b o e => (e0.bs b o e).1
  have ccs : s.heap.get? cc = some ⟨cl, cld, .cell (some (.ref C)), csl⟩ := KX _ _ hc
  have ccb : base.get? cc = some ⟨cl, cld, .cell (some (.ref C)), csl⟩ := e0.mod.kin _ _ hc
  have noA : ∀ b : Addr, b ∉ (cxI CX P w K mg base pn qual scope fI cda cc A outer s H E).ex := fun b z => absurd (show b ∈ ([] : List Addr) from z) (by simp)
  refine ⟨⟨e0.mod, S.kind, rfl, rfl, Nat.le_refl _, fun x z c h1 h2 => ?_, fun x hx => ?_, fun x c h1 h2 => ?_, fun _ => hd, Around.frames_deeper e0.frames, .inr ⟨rfl, rfl⟩, fun b z => absurd z (noA b), e0.bs, e0.bsz, fun b _ _ => noA b, fun b z => absurd z (noA b), e0.funs, e0.frf⟩,
    rfl, e0.bare, Un.kept hk, ⟨_, hns, fun i x v h1 h2 h3 => ?_⟩, fun x c h => ?_, e0.hok.fresh (Nat.le_refl _), fun x c h => ?_, fun p hp => absurd (show p ∈ ([] : List (Addr × Obj)) from hp) (by simp), e0.hok.kept hk, rfl⟩
  · exact (lk_cls h1).1.trans (lk_cls h2).1.symm
  · have hx : scope.names.lookup x = some .cell ∨ scope.names.lookup x = some .free := hx
    rcases hx with hx | hx
    · exact absurd rfl (S.nocell _ (PySem.mem_of_lookup hx))
    · have e : x = "__class__" := S.free _ (PySem.mem_of_lookup hx) rfl
      exact ⟨cc, by rw [e]; rfl⟩
  · have e := (lk_cls h2).1
    rw [e] at h1
    have z : (!(( "__class__" : Str) == ("__class__" : Str))) = true := h1
    simp at z
  · match i with
    | 0 =>
      cases h1
      cases h2
      refine ⟨.ref a, rfl, .inl ⟨S.slf, ?_⟩⟩
      show ([(pn, u), ("self", Value.ref a)] : List (Str × Value)).lookup ("self" : Str) = _
      rw [List.lookup_cons]
      have : (("self" : Str) == pn) = false := by simpa using Ne.symm S.ne
      rw [this]
      rfl
    | 1 =>
      cases h1
      cases h2
      refine ⟨u, ry, .inl ⟨S.par, ?_⟩⟩
      show ([(pn, u), ("self", Value.ref a)] : List (Str × Value)).lookup pn = _
      rw [List.lookup_cons]
      simp
    | i + 2 => cases h1
  · obtain ⟨e1, e2⟩ := lk_cls h
    rw [e2]
    exact ⟨_, _, hk _ _ ccs, rfl⟩
  · obtain ⟨e1, e2⟩ := lk_cls h
    rw [e2]
    exact (e0.bs _ _ ccb).2
end
end DL

set_option Elab.async false
set_option linter.all false
set_option maxRecDepth 100000
set_option maxHeartbeats 4000000
namespace DL
open PySem L2 PySem.Spec PyProof.Rows PySem.W PySem.Calls
/-- the promise: self.f stands in the exception's new dict -/
def spI (C : Addr) (f : Str) : Sp := fun vs H Q _ => ∃ a y, vs = [.ref a, y] ∧ H a = some (exo a C none) ∧ ∀ dx, H dx = none → dx ≠ a → Q .non (upd (upd H dx (exd dx [(f, y)])) a (exo a C (some dx)))
theorem init_fn {CX : CXT} {P : Program} {w : World} {K : Frag} {mg : Str → Option Value} {base : Heap} {pn f : Str} {fI cda cc C : Addr} {fd : FuncData} {k : Nat} (I : InitIs P K mg C fI cda cc fd pn f) : FnOk P w K mg base CX (k + 1) fI fd ["self", pn] (spI C f) := by
  refine ⟨fun vs H Q E h => by obtain ⟨a, y, rfl, _⟩ := h; rfl, fun A outer s H args us vs Q E hr e0 hb rv hsp => ?_⟩
  obtain ⟨a, y, rfl, ea, q⟩ := hsp
  obtain ⟨name, qual, params, scope, m, j, p0, p1, p2, p3, p4, p5, p6, p7, p8, p9, dV, kV, doc, pm, an, ct, rfl, hcd, S, hpos, ar, har, hself⟩ := I.fn
  obtain ⟨oc, od, osl, lk⟩ := I.lk
  cases rv with
  | @cons _ u0 _ us1 r1 r2 =>
  cases r2 with
  | @cons _ u _ us2 r2 r3 =>
  cases r3
  obtain rfl : u0 = Value.ref a := r1
  have KX : K.In s.heap := e0.mod.kin.keeps fun b o e => (e0.bs b o e).1
  have lim : s.heap.NoLimit := e0.mod.nolimit.keeps fun b o e => (e0.bs b o e).1
  have hloc : ∀ x ∈ (["self", pn] : List Str).zip [Value.ref a, u], scope.names.lookup x.1 = some .local := fun x hx => by
    have hx : x ∈ [(("self" : Str), Value.ref a), (pn, u)] := hx
    simp only [List.mem_cons, List.not_mem_nil, or_false] at hx
    rcases hx with rfl | rfl
    · exact S.slf
    · exact S.par
  refine ks_codeAny_call_defAt (fd := ksFn name qual params (initBody pn f m j p0 p1 p2 p3 p4 p5 p6 p7 p8 p9) scope dV kV doc pm an (.ref cda) ct cc) (body := initBody pn f m j p0 p1 p2 p3 p4 p5 p6 p7 p8 p9) (binds := (["self", pn] : List Str).zip [Value.ref a, u]) hr.depth (KX _ _ lk) rfl lim (codeRec_of KX hcd) rfl hb S.nocell hloc (fun h0 hns hk => ?_) S.co S.gen S.kind
  have J0 := invI (CX := CX) (w := w) (fI := fI) (cda := cda) (qual := qual) (H := H) (E := E) (t := s.toks + ((["self", pn] : List Str).zip [Value.ref a, u]).length) S hr.hd e0 I.cell r2 hns hk
  obtain ⟨nm, q', N, bs, bm, sn, sub, ab, col, dd, k0, k1, k2, k3, k5, hC, hbm⟩ := I.oex.cls
  have hcl : PySem.W.clsIn K C = some { name := nm, bases := bs, mro := .ref C :: bm, ns := N, qualname := q', hasDict := true, slotNames := sn, subclasses := sub, abstract := ab, collection := col, hasDel := false } := by unfold PySem.W.clsIn; rw [hC] <;> rfl
  obtain ⟨ccl, cdd, ccs, cvs, file, tf, hcode, hvs, hfile⟩ := I.code
  obtain ⟨cl, cld, csl, hcc⟩ := I.cell
  obtain ⟨t0, ho⟩ := exo_at J0.hok ea
  have KX0 : K.In h0 := KX.keeps hk
  obtain ⟨mb, hb1, hb2⟩ := J0.mod.blt
  refine ks_wpAt_execs_cons (ks_wpAt_Expr_any (ks_wpAt_MethodCall ?_ (super_he hpos)) (hi := J0.quiet))
  refine ks_wpAt_super_base (f := fI) (cc := cda) (ar := ar) (fd := ksFn name qual params (initBody pn f m j p0 p1 p2 p3 p4 p5 p6 p7 p8 p9) scope dV kV doc pm an (.ref cda) ct cc) S.sup S.cls (by decide) rfl (KX0 _ _ lk) rfl har rfl (KX0 _ _ hcode) rfl hvs hfile I.top ?_
  refine ks_loadName_global S.kind S.sup (loadGlobal_builtin (J0.mod.glob.keeps J0.bk) I.sup (hb1.keeps J0.bk) ((hb2 _ (by decide)).trans (by first | rfl | decide +kernel)) ⟨rfl, ?_⟩)
  refine wpAny_loadName_free S.kind S.cls rfl ⟨_, KX0 _ _ hcc, rfl⟩ ?_
  refine wpAny_loadName_local (v := .ref a) S.kind (by rw [hself]; exact S.slf) hns ?_ ?_
  · rw [hself]
    show ([(pn, u), ("self", Value.ref a)] : List (Str × Value)).lookup ("self" : Str) = _
    rw [List.lookup_cons]
    have : (("self" : Str) == pn) = false := by simpa using Ne.symm S.ne
    rw [this]
    rfl
  refine ks_wpAny_isType_cls (KX0 _ _ hC) rfl ⟨rfl, ?_⟩
  refine ks_wpAny_call_super (KX0 _ _ hC) rfl ho rfl (fun c e => nomatch e) (looks_mroIn KX0 I.mro) (fun h1 e1 k1' => ?_)
  have KX1 : K.In h1 := KX0.keeps k1'
  have hI : PySem.W.Looks (model P w) h1 (isInstance (.ref a) (.type "ValueError")) true := by
    have ia : PySem.W.InstAt h1 a { cls := .ref C, dict := none, data := .fields #[.ref t0, .none, .none, .none, .bool false, .none] } C none := ⟨k1' _ _ ho, rfl, rfl, trivial⟩
    exact ia.type.andThen (looks_subIn KX1 I.sub)
  have hne : a ≠ C := by
    rintro rfl
    have := KX0 _ _ hC
    rw [ho] at this
    cases this
  have hm : alongIn K "__init__" (((.ref C :: bm : List Value).dropWhile (· != .ref C)).drop 1) = some (some (.builtin "ValueError.__init__")) := by
    have := I.sin
    unfold ks_superIn at this
    rw [hcl] at this
    exact this
  refine kxs_getMethod kxs_ValueError e1 (looks_opaque KX1 I.opq) (l₀ := .ref C :: bm) (fun A Q E s k q => wpAny_bind ((looks_clsIn KX1 hcl) A _ E s k (wpAny_pure q))) rfl KX1 hm hI hne (by decide) ?_
  -- the wrapper is called
  have kk : ∀ b o, h0.get? b = some o → (h1.push (kxs_mw "ValueError.__init__" a)).get? b = some o := fun b o z => Heap.get?_push_of_some _ (k1' b o z)
  have hu : (h1.push (kxs_mw "ValueError.__init__" a)).get? h1.objs.size = some (kxs_mw "ValueError.__init__" a) := Heap.get?_push_at rfl rfl
  have J1 := J0.kept (h' := h1) (t' := s.toks) k1'
  have Jp := J0.kept (h' := h1.push (kxs_mw "ValueError.__init__" a)) (t' := s.toks + ((["self", pn] : List Str).zip [Value.ref a, u]).length + 1) kk
  have hHu : H h1.objs.size = none := J1.hok.fresh (Nat.le_refl _)
  have hLu : h1.objs.size ≠ (cxI CX P w K mg base pn qual scope fI cda cc A outer s H E).env.locals := Nat.ne_of_gt J1.lt
  have hFu : h1.objs.size ∉ (cxI CX P w K mg base pn qual scope fI cda cc A outer s H E).fs := J1.nofs (Nat.le_refl _)
  have hBu : base.get? h1.objs.size = none := by
    cases z : base.get? h1.objs.size with
    | none => rfl
    | some o => exact absurd (Heap.lt_size (J1.bk _ _ z)) (Nat.lt_irrefl _)
  have Jq := Jp.pins_of (pins' := [(h1.objs.size, kxs_mw "ValueError.__init__" a)]) (fun p hp => by
    simp only [List.mem_singleton] at hp
    subst hp
    exact ⟨hu, hHu, hLu, hFu, fun v z => nomatch z⟩)
  have ha : PA (cxI CX P w K mg base pn qual scope fI cda cc A outer s H E) [.Constant (.str m) j p3] (tCons (tC (.str m)) tNil) := pa_cons pe_str pa_nil
  refine kxs_callWith1 (i := "ValueError.__init__") (x := a) (h₀ := base) (L := (cxI CX P w K mg base pn qual scope fI cda cc A outer s H E).env.locals) (news := [(h1.objs.size, kxs_mw "ValueError.__init__" a)]) (fun p hp => ?_) (List.mem_singleton.mpr rfl) ?_
  · simp only [List.mem_singleton] at hp
    subst hp
    exact ⟨hu, hLu, hBu⟩
  refine thn (ha.run p4 [(h1.objs.size, kxs_mw "ValueError.__init__" a)] _ [some (.ref a), some y] H (fun vs H1 => vs = [V.str m] ∧ H1 = H) Jq ⟨rfl, rfl⟩) fun us s1 hh => ?_
  obtain ⟨vs, H1, I1, r, ev, eH⟩ := hh
  subst ev eH
  have hu1 := (I1.pin (h1.objs.size, kxs_mw "ValueError.__init__" a) (List.mem_append_right _ (List.mem_singleton.mpr rfl))).1
  refine ⟨hu1, ?_⟩
  have hl : us.length ≤ sizeLine := by
    rw [← Paired.length r, sizeLine_eq]
    show 1 ≤ 16777216
    omega
  obtain ⟨t1, ho1⟩ := exo_at I1.hok ea
  obtain ⟨hp, g, dr, tk, os⟩ := s1
  refine call_mw (I1.kIn _ _ hC) ho1 hu1 hl fun h2 t2 k2 hx => ?_
  have J2 := I1.write (t' := tk) (x := a) (e := a) (o := exo a C none) (by rw [ea]; exact True.intro) (.inl rfl) k2 ⟨_, hx⟩ (exo_ok hx)
  have eu : upd H1 a (exo a C none) = H1 := by
    funext b
    by_cases hb : b = a
    · rw [hb, upd_same, ea]
    · rw [upd_ne hb]
  rw [eu] at J2
  -- self.f = x
  have st : PSs (cxI CX P w K mg base pn qual scope fI cda cc A outer s H1 E) [.Assign [.Attribute (.Name "self" p6) f p7] (.Name pn p8) p9] _ :=
    pss_cons (ps_ost (pe_var (i := 0) rfl (.inl S.slf) (by decide) (by decide)) (pe_var (i := 1) rfl (.inl S.par) S.dbg S.cdc)) pss_nil
  refine wpAt_of_wpAny (wpAny_mono (st.run [(h1.objs.size, kxs_mw "ValueError.__init__" a)] _ [some (.ref a), some y] H1 { nx := fun _ H' => Q .non H', rt := Q } J2 ⟨y, rfl, .ref a, rfl, a, C, rfl, I.oex, I.nof, .inl ⟨ea, fun dx n1 n2 => q dx n1 n2⟩⟩) (fun fl s' hs => ?_) fun e s' hs => hs)
  cases fl with
  | next =>
    obtain ⟨σ', H', J, q'⟩ := hs
    exact ⟨.non, H', J.os, J.bare, J.base, J.hok, rfl, q'⟩
  | ret v =>
    obtain ⟨v', σ', H', J, rv, q'⟩ := hs
    exact ⟨v', H', J.os, J.bare, J.base, J.hok, rv, q'⟩
  | brk =>
    obtain ⟨_, _, _, z⟩ := hs
    exact z.elim
  | cont =>
    obtain ⟨_, _, _, z⟩ := hs
    exact z.elim
end DL

set_option linter.all false
set_option maxRecDepth 100000
/-! DL.Sound: what is checked is sound. -/
namespace DL
open PySem L2 PySem.Spec PyProof.Rows
/-- the facts of a def -/
def FnFact (B : Tabs) (T : Tb) (F : FS) (n : Nat) (P : Program) (w : World) (K : PySem.W.Frag) (mg : Str → Option Value) (base : Heap) (x : Str) (f : Nat) : Prop :=
  ∃ (ad : Addr) (fd : FuncData), mg x = some (.ref ad) ∧ PySem.W.keepIn K (.ref ad) = true ∧ FnOk P w K mg base (CX P w) (3 * n + 2) ad fd (B.prs f) (spF ⟨K, w⟩ T (F f) (B.prs f).length) ∧
    (∀ j ≤ (B.dfs f).length, ∃ dvs ds, Binds K fd (B.prs f) ds ∧ Vals dvs ds ∧ ∀ μ H, RepL ⟨K, w⟩ μ H dvs ((B.dfs f).drop j)) ∧ (∀ k ∈ B.kws f, KwOk K fd (B.prs f) k)
/-- a table of the module -/
def KdOk (K : PySem.W.Frag) (w : World) (mg : Str → Option Value) (x : Str) (kvs : List (Str × D)) : Prop :=
  ∃ (a : Addr) (es : Array DictEntry) (n : Nat), mg x = some (.ref a) ∧ KDict K w a es n ∧ ∀ z d, kvs.lookup z = some d → ∃ u v, PySem.W.nsIn K a z = some (some u) ∧ RelV v u ∧ ∀ μ H, Rep ⟨K, w⟩ μ H v d
/-- an exception class of the module, made and raised -/
def ExFact (T : Tb) (P : Program) (K : PySem.W.Frag) (mg : Str → Option Value) (x : Str) (c : Nat) : Prop :=
  mg x = some (.ref (T.ca c)) ∧ ∃ (fI cda cc : Addr) (fd : FuncData) (pn : Str), InitIs P K mg (T.ca c) fI cda cc fd pn (T.cf c) ∧ PySem.W.findIn K (.ref (T.ca c)) "__init__" = some (some (.ref fI)) ∧ PySem.W.typeIn K (.ref fI) = some (.type "function") ∧ Binds K fd ["self", pn] []
/-- a class by its name -/
def NameV (mg : Str → Option Value) (y : Str) (v : V) (cv : Value) : Prop := ClsV v cv ∧ (mg y = some cv ∨ (mg y = none ∧ bootBuiltins y = some cv ∧ y ≠ "__name__"))
/-- what an exception's class says of its instances: their field is read, isinstance asks them rightly -/
structure XcFact (K : PySem.W.Frag) (C : Addr) (f : Str) : Prop where
  xf : XfC K C
  xi : ExcC K C
  no : PySem.W.findIn K (.ref C) f = some none
/-- a def that calls what it got, in a try -/
def HrdFact (B : Tabs) (P : Program) (K : PySem.W.Frag) (mg : Str → Option Value) (x : Str) (h : HrdS) : Prop :=
  ∃ (g : Addr) (a : Str) (pg : Arguments) (bg : List Stmt) (sg : Scope) (dV kV doc pm cdv ct oc : Value) (an od : Option Addr) (osl : Array (Option Value)),
    mg x = some (.ref g) ∧ PySem.W.keepIn K (.ref g) = true ∧ K.lookup g = some ⟨oc, od, .func (PySem.W.fnOf x x pg bg sg dV kV doc pm an cdv ct), osl⟩ ∧ PySem.W.codeIn K cdv x = true ∧
    L2.Binds K (PySem.W.fnOf x x pg bg sg dV kV doc pm an cdv ct) [a] [] ∧ FnScope h.N [a] sg ∧ ckHrd B sg a h bg = true
/-- what holds of the module -/
structure GF (B : Tabs) (T : Tb) (F : FS) (n : Nat) (P : Program) (w : World) (K : PySem.W.Frag) (mg : Str → Option Value) (base : Heap) : Prop where
  fn : ∀ x f, B.fns.lookup x = some f → FnFact B T F n P w K mg base x f
  cst : ∀ x d, B.cst.lookup x = some d → ∃ v u, mg x = some u ∧ RelV v u ∧ ∀ μ H, Rep ⟨K, w⟩ μ H v d
  bl : ∀ x ∈ B.bls, mg x = none
  kd : ∀ x kvs, B.kds.lookup x = some kvs → KdOk K w mg x kvs
  len : ∀ f ds S, ds.length ≠ (B.prs f).length → F f ds S = .bad
  ex : ∀ x c, B.exs.lookup x = some c → ExFact T P K mg x c
  en : ∀ x ∈ B.exn, ∃ cv, mg x = some cv
  em : ∀ c x b, ((c, x), b) ∈ B.exm → ∀ cv, mg x = some cv → PySem.W.exmOne K (.ref (T.ca c)) cv = some b
  xc : ∀ c f, (c, f) ∈ B.exf → T.cf c = f ∧ XcFact K (T.ca c) f
  is : ∀ c y b, ((c, y), b) ∈ B.ist → (∃ v cv, NameV mg y v cv ∧ PySem.W.kitOne K (.ref (T.ca c)) cv = some b) ∧ ExcC K (T.ca c)
  hr : ∀ x h, B.hrd.lookup x = some h → HrdFact B.off P K mg x h
theorem GF.off {B : Tabs} {T : Tb} {F : FS} {n : Nat} {P : Program} {w : World} {K : PySem.W.Frag} {mg : Str → Option Value} {base : Heap} (g : GF B T F n P w K mg base) : GF B.off T F n P w K mg base := ⟨g.fn, g.cst, g.bl, g.kd, g.len, g.ex, g.en, g.em, g.xc, g.is, g.hr⟩
theorem GF.at {B : Tabs} {T : Tb} {F : FS} {n : Nat} {P : Program} {w : World} {K : PySem.W.Frag} {mg : Str → Option Value} {base : Heap} (g : GF B T F n P w K mg base) (f : Nat) : GF (B.at f) T F n P w K mg base := ⟨g.fn, g.cst, g.bl, g.kd, g.len, g.ex, g.en, g.em, g.xc, g.is, g.hr⟩
/-- a lambda may be made here -/
structure LamOk (n : Nat) (X : Cx) : Prop where
  room : Room (3 * n + 4) X.A
  ex : ∃ cc P, X.env.code = .ref cc ∧ LamX.TabB X.base X.mg cc P ∧ (P, X.env.qual ++ "<lambda>") ∈ tabsOf X.K ∧ ∀ p ∈ tabsOf X.K, p.1 = P → p.2 = X.env.qual ++ "<lambda>"
structure CxOk (B : Tabs) (T : Tb) (F : FS) (n : Nat) (X : Cx) (W : WX) : Prop where
  nd : X.N.Nodup
  calm : X.calm = true
  room : Room (3 * n + 2) X.A
  tk : Takes X W
  gf : GF B T F n X.prog X.w X.K X.mg X.base
  lm : B.lam = true → LamOk n X
structure Sd (T : Tb) (F : FS) (X : Cx) (W : WX) (x : Ex) (e : Expr) : Prop where
  pe : PE X e (tE X.kw T F W x)
  pt : PT X e (tT X.kw T F W x)
  pw : ∀ o l p, e = .BoolOp o l p → PW X e (tT X.kw T F W x)
inductive AllS (T : Tb) (F : FS) (X : Cx) (W : WX) : List Ex → List Expr → Prop
  | nil : AllS T F X W [] []
  | cons {x : Ex} {l : List Ex} {e : Expr} {es : List Expr} : notStar e = true → Sd T F X W x e → AllS T F X W l es → AllS T F X W (x :: l) (e :: es)
section
variable {B : Tabs} {T : Tb} {F : FS} {n : Nat} {X : Cx} {W : WX}
theorem CxOk.hu (c : CxOk B T F n X W) : X.A.units + 200 < cLine := by have := c.room.un; omega
theorem CxOk.blk {s : Shared} {H : Hp} {scope : Scope} {cenv : PySem.Env} {fp : List Addr} (c : CxOk B T F n X W) : CxOk B.off T F n (X.blk s H scope cenv fp) W0 :=
  ⟨c.nd, c.calm, c.room, fun u s' ⟨_, _, _, _, _, _, _, _, _, _, _, _, _, _, _, _, h⟩ => h, c.gf.off, fun z => nomatch z⟩
theorem AllS.pa : ∀ {l : List Ex} {es : List Expr}, AllS T F X W l es → PA X es (tEs X.kw T F W l)
  | [], _, h => by cases h; exact es_nil
  | x :: l, _, h => by
    cases h with
    | cons h1 h2 h3 => exact es_cons h1 h2.pe h3.pa
theorem AllS.star : ∀ {l : List Ex} {es : List Expr}, AllS T F X W l es → es.all notStar = true
  | [], _, h => by cases h; rfl
  | x :: l, _, h => by
    cases h with
    | cons h1 h2 h3 => simp [h1, h3.star]
theorem AllS.len : ∀ {l : List Ex} {es : List Expr}, AllS T F X W l es → l.length = es.length
  | [], _, h => by cases h; rfl
  | x :: l, _, h => by
    cases h with
    | cons h1 h2 h3 => simp [h3.len]
theorem AllS.split : ∀ {a b : List Expr} {l : List Ex}, AllS T F X W l (a ++ b) → ∃ l1 l2, l = l1 ++ l2 ∧ AllS T F X W l1 a ∧ AllS T F X W l2 b
  | [], b, l, h => ⟨[], l, rfl, .nil, h⟩
  | e :: a, b, l, h => by
    cases h with
    | cons h1 h2 h3 =>
      obtain ⟨l1, l2, rfl, k1, k2⟩ := AllS.split h3
      exact ⟨_ :: l1, l2, rfl, .cons h1 h2 k1, k2⟩
theorem AllS.pk : ∀ {kws : List Keyword} {l : List Ex}, AllS T F X W l (kws.map (·.value)) → PK X kws (tKs X.kw T F W l)
  | [], _, h => by cases h; exact ks_nil
  | ⟨nm, v, kp⟩ :: kws, _, h => by
    cases h with
    | cons h1 h2 h3 => exact ks_cons h2.pe h3.pk
theorem AllS.pts : ∀ {l : List Ex} {es : List Expr}, AllS T F X W l es → PTs X es (tTs X.kw T F W l)
  | [], _, h => by cases h; exact ts_nil
  | x :: l, _, h => by
    cases h with
    | cons h1 h2 h3 => exact ts_cons h2.pt h3.pts
/-- a plain expression -/
theorem Sd.plain {x : Ex} {e : Expr} (h : PE X e (tE X.kw T F W x)) (he : ∀ whole, isTrue e X.env whole = (do let v ← whole; standAt e.pos; holding [v] (truthy v))) (hb : ∀ o l p, e ≠ .BoolOp o l p) : Sd T F X W x e :=
  ⟨h, t_val h he, fun o l p q => absurd q (hb o l p)⟩
theorem gl_of {sc : Scope} {x : Str} (h : glB sc x = true) : sc.names.lookup x = some .globalImplicit := by simpa [glB] using h
theorem bl_of {sc : Scope} {x : Str} (h : blB B sc x = true) : sc.names.lookup x = some .globalImplicit ∧ x ∈ B.bls := by
  simp only [blB, Bool.and_eq_true] at h
  exact ⟨gl_of h.1, by simpa using h.2⟩
theorem vis_of {sc : Scope} {x : Str} (h : visB sc x = true) : Vis sc x := by
  unfold visB at h
  split at h
  · exact .inl ‹_›
  · exact .inr (.inl ‹_›)
  · exact .inr (.inr ‹_›)
  · cases h
/-! targets -/
mutual
theorem sound_t {ok : Str → Bool} (hc : X.calm = true) (hN : X.N.Nodup) (hok : ∀ x, ok x = true → Loc X.env.scope x ∧ (X.fn x = true ∨ X.env.scope.names.lookup x = some .local)) : ∀ (t : Tg) (e : Expr), ckT X.N ok t e = true → PG X e (tG X.kw t)
  | .nm i, e, h => by
    cases e with
    | Name x p =>
      simp only [ckT, Bool.and_eq_true, beq_iff_eq] at h
      obtain ⟨h1, h2⟩ := hok x h.2
      exact g_name hN h.1 h1 h2
    | _ => simp [ckT] at h
  | .tup ts, e, h => by
    cases e with
    | Tuple es k p =>
      simp only [ckT] at h
      obtain ⟨h1, h2, h3⟩ := sound_ts hc hN hok ts es h
      exact g_tup hc h2 h3 h1
    | _ => simp [ckT] at h
theorem sound_ts {ok : Str → Bool} (hc : X.calm = true) (hN : X.N.Nodup) (hok : ∀ x, ok x = true → Loc X.env.scope x ∧ (X.fn x = true ∨ X.env.scope.names.lookup x = some .local)) : ∀ (ts : List Tg) (es : List Expr), ckTs X.N ok ts es = true → PGs X es (tGs X.kw ts) ∧ es.all notStar = true ∧ es.length = ts.length
  | [], es, h => by
    cases es with
    | nil => exact ⟨gs_nil, rfl, rfl⟩
    | cons e es => simp [ckTs] at h
  | t :: ts, es, h => by
    cases es with
    | nil => simp [ckTs] at h
    | cons e es =>
      simp only [ckTs, Bool.and_eq_true] at h
      obtain ⟨k1, k2, k3⟩ := sound_ts hc hN hok ts es h.2
      exact ⟨gs_cons h.1.1 (sound_t hc hN hok t e h.1.2) k1, by simp [h.1.1, k2], by simp [k3]⟩
end
/-! what is walked -/
theorem sound_it {k : IK} {its : List Ex} {tg e : Expr} (c : CxOk B T F n X W) (h : ckIt B X.env.scope k tg e = true) (ha : AllS T F X W its (itArgs k e)) : PI X tg e (tI X.kw T F W k its) ∧ ∀ y, foldedSetIterable e X.env y = pure y := by
  cases k with
  | val =>
    have hs : ∀ y, foldedSetIterable e X.env y = pure y := by
      intro y
      unfold ckIt at h
      cases e <;> first | rfl | (simp [notSet] at h)
    cases its with
    | nil => cases ha
    | cons x its =>
      cases ha with
      | cons h1 h2 h3 =>
        cases h3
        exact ⟨i_val h2.pe, hs⟩
  | rng1 =>
    simp only [ckIt] at h
    split at h
    · rename_i x p es q
      simp only [Bool.and_eq_true, beq_iff_eq] at h
      obtain ⟨⟨⟨hx, hb⟩, hl⟩, _⟩ := h
      obtain ⟨g1, g2⟩ := bl_of hb
      subst hx
      refine ⟨?_, fun y => rfl⟩
      match es, hl, ha with
      | [a], _, .cons h1 h2 h3 =>
        cases h3
        exact i_rng1 g1 (c.gf.bl _ g2) h1 (AllS.pa (.cons h1 h2 .nil))
    · cases h
  | rng2 =>
    simp only [ckIt] at h
    split at h
    · rename_i x p es q
      simp only [Bool.and_eq_true, beq_iff_eq] at h
      obtain ⟨⟨⟨hx, hb⟩, hl⟩, _⟩ := h
      obtain ⟨g1, g2⟩ := bl_of hb
      subst hx
      refine ⟨?_, fun y => rfl⟩
      match es, hl, ha with
      | [a, b], _, .cons h1 h2 (.cons h3 h4 h5) =>
        cases h5
        exact i_rng2 g1 (c.gf.bl _ g2) h1 h3 (AllS.pa (.cons h1 h2 (.cons h3 h4 .nil)))
    · cases h
  | rngd =>
    simp only [ckIt] at h
    split at h
    · rename_i x p es q
      simp only [Bool.and_eq_true, beq_iff_eq] at h
      obtain ⟨⟨⟨hx, hb⟩, hl⟩, _⟩ := h
      obtain ⟨g1, g2⟩ := bl_of hb
      subst hx
      refine ⟨?_, fun y => rfl⟩
      match es, hl, ha with
      | [a, b, c'], _, .cons h1 h2 (.cons h3 h4 (.cons h5 h6 h7)) =>
        cases h7
        exact i_rngd g1 (c.gf.bl _ g2) h1 h3 h5 (AllS.pa (.cons h1 h2 (.cons h3 h4 (.cons h5 h6 .nil))))
    · cases h
  | enum =>
    simp only [ckIt] at h
    split at h
    · rename_i x p es q
      simp only [Bool.and_eq_true, beq_iff_eq, Bool.or_eq_true] at h
      obtain ⟨⟨⟨hx, hb⟩, hl⟩, ht⟩ := h
      obtain ⟨g1, g2⟩ := bl_of hb
      subst hx
      refine ⟨?_, fun y => rfl⟩
      have htup : isTupE tg = true := by simpa using ht
      cases tg with
      | Tuple elts kk tpos =>
        match es, hl, ha with
        | [a], _, .cons h1 h2 h3 =>
          cases h3
          exact i_enum g1 (c.gf.bl _ g2) h1 (AllS.pa (.cons h1 h2 .nil))
      | _ => simp [isTupE] at htup
    · cases h
  | zip =>
    simp only [ckIt] at h
    split at h
    · rename_i x p es q
      simp only [Bool.and_eq_true, beq_iff_eq, Bool.or_eq_true] at h
      obtain ⟨⟨⟨hx, hb⟩, hl⟩, ht⟩ := h
      obtain ⟨g1, g2⟩ := bl_of hb
      subst hx
      refine ⟨?_, fun y => rfl⟩
      have htup : isTupE tg = true := by simpa using ht
      cases tg with
      | Tuple elts kk tpos =>
        match es, hl, ha with
        | [a, b], _, .cons h1 h2 (.cons h3 h4 h5) =>
          cases h5
          exact i_zip g1 (c.gf.bl _ g2) h1 h3 (AllS.pa (.cons h1 h2 (.cons h3 h4 .nil)))
      | _ => simp [isTupE] at htup
    · cases h
end
end DL

set_option linter.all false
set_option maxRecDepth 100000
set_option maxHeartbeats 2000000
/-! DL.Hrd: except suites that read the exception; a def that calls what it got. -/
namespace DL
open PySem L2 PySem.Spec PyProof.Rows
/-! ### isinstance of an exception that has a dict -/
section
variable {prog : Program} {w : World} {A : Around} {E : Value → Shared → Prop} {s : Shared} {K : PySem.W.Frag} {x D : Addr} {ox : Obj} {od : Option Obj}
open PySem.W PySem.Calls in
theorem found_class {C : Addr} {a g : Value} {nm : Str} (c1 : (clsIn K C).isSome = true) (c2 : findIn K (.ref C) nm = some (some a)) (c3 : specialIn K a "__get__" = some (some g)) (c4 : takesIn K a = some true) : findObj K C od nm = some (.bind g a) := by
  unfold findObj
  cases hc : clsIn K C with
  | none => rw [hc] at c1; cases c1
  | some cd => simp [c2, c3, c4]
open PySem.W PySem.Calls in
theorem class_of_exc (C : ExcC K D) (X : K.In s.heap) (I : InstAt s.heap x ox D od) {Q : Option Value → Shared → Prop} (h : Q (some (.ref D)) { s with toks := s.toks + 1 }) : wpAny (model prog w) A (getAttr? (.ref x) "__class__") Q E s := by
  have f1 : findObj K D od "__class__" = some (.bind (.builtin "getset_descriptor.__get__") (.builtin "object.__class__")) :=
    found_class (by obtain ⟨cd, hc, _⟩ := any_some C.hd; rw [hc]; rfl) C.ha C.hn C.ht
  obtain ⟨hp, gs, dr, tk, os⟩ := s
  have A0 := I.type (M := model prog w)
  have A1 := looks_findIn (M := model prog w) X C.hg
  have A2 := looks_findIn (M := model prog w) X C.hk
  have A3 := looks_find (M := model prog w) X I f1
  have isB : Looks (model prog w) hp (isInstance (.ref x) (.type "BaseException")) true := A0.andThen (looks_subIn X C.hs)
  have b0 : (false && onTheHeap (Value.builtin "BaseException.__getattribute__")) = false := rfl
  have b1 : (onTheHeap (Value.ref D) && Value.builtin "BaseException.__getattribute__" == Value.builtin "object.__getattribute__") = false := by
    have b2 : (Value.builtin "BaseException.__getattribute__" == Value.builtin "object.__getattribute__") = false := by decide +kernel
    rw [b2]; rfl
  unfold getAttr?; unfold getAttrBy?; unfold getAttrBy
  refine wpAny_bind (wpAny_mkText (wpAny_bind (wpAny_attempt (wpAny_holding (wpAny_bind (A0.at (wpAny_bind (A1.at ?_))))))))
  show wpAny _ _ (if (onTheHeap (Value.ref D) && Value.builtin "BaseException.__getattribute__" == Value.builtin "object.__getattribute__") = true then _ else _) _ _ _
  rw [b1, if_neg Bool.false_ne_true]
  unfold getAttrByItsOwn; unfold hookBefore
  refine wpAny_bind ?_
  rw [if_pos (show onTheHeap (Value.ref D) = true from rfl)]
  refine A2.at (wpAny_bind (wpAny_attempt (wpAny_holding ?_)))
  unfold callGetattribute
  rw [b0, if_neg Bool.false_ne_true]
  unfold boundAndCalled
  rw [PySem.F.excAttr_ValueError.ga.bind (.ref x)]
  refine wpAny_bind (wpAny_pure ?_)
  show wpAny _ _ (call (.builtin "BaseException.__getattribute__") [.ref x, .str "__class__" tk]) _ _ _
  refine wpAny_call (codeAny_call_builtin PySem.F.excAttr_ValueError.ga.plain PySem.F.entry_bexc_ga ?_)
  refine @check_slot (model prog w) _ _ ⟨hp, gs, dr, tk + 1, os⟩ "BaseException.__getattribute__" "BaseException" "__getattribute__" (.ref x) [.str "__class__" tk] [] _ (by decide +kernel) (by decide +kernel) isB (PySem.F.args_bexc_ga (.ref x) (.str "__class__" tk)) ?_
  unfold Builtin.«object.__getattribute__»
  refine wpAny_bind (wpAny_of_eq (a := ((Value.ref x : Value), [Value.str "__class__" tk])) (by first | rfl | (simp only [slotArgs]; rfl)) ?_)
  refine wpAny_bind (wpAny_pure (wpAny_bind (A0.at (wpAny_bind (A3.at ?_)))))
  show wpAny _ _ (holding [Value.builtin "object.__class__"] (call (.builtin "getset_descriptor.__get__") [.builtin "object.__class__", .ref x, .ref D]) >>= ret) _ _ _
  refine wpAny_bind (wpAny_holding (wpAny_call (class_get (s := ⟨hp, gs, dr, tk + 1, os⟩) (ox := ox) (od := od) X I C.hm ?_)))
  refine wpAny_pure ?_
  show wpAny _ _ (handedOut (.ref D)) _ _ _
  rw [handedOut_of (v := .ref D) rfl]
  first
    | exact wpAny_pure (wpAny_pure h)
    | exact wpAny_pure h
    | exact wpAny_pure (wpAny_bind (wpAny_pure (wpAny_pure h)))
open PySem.W in
theorem kitx_excD (C : ExcC K D) : KitX K (.ref x) (.ref D) (fun h => InstAt h x ox D od) where
  ty := fun _ _ _ I => I.type
  it := fun _ _ X _ => by
    obtain ⟨cd, hc, _⟩ := any_some C.hd
    unfold clsIn at hc
    split at hc
    · rename_i c1 c2 c3 c4 ho
      intro A' Q' E' s' k q
      unfold isType loadHead
      exact wpAny_bind (wpAny_loadPart (k _ _ (X _ _ ho)) (wpAny_pure q))
    · cases hc
  ne := fun h tp dd its n sl X htp => by
    obtain ⟨cd, hc, _⟩ := any_some C.hd
    refine Bool.eq_false_iff.mpr fun q => ?_
    obtain rfl : D = tp := Value.ref.inj (beq_iff_eq.mp q)
    unfold clsIn at hc
    split at hc
    · rename_i c1 c2 c3 c4 ho
      cases (X _ _ ho).symm.trans htp
    · cases hc
  ca := fun X I k => class_of_exc C X I k
end
section
variable {X : Cx} {a D : Addr} {oe : Obj} {pn : List (Addr × Obj)} {dx : Addr}
theorem exc_inst {σ : L2.St} {pins : List (Addr × Obj)} {H : Hp} {s : Shared} {fs : List (Str × V)} (I : L2.Inv (X.suite a ((a, oe) :: pn)) pins σ H s) (hz : Zc (.ref D) (some dx) oe) (hf : ∃ vs, oe.data = .fields vs) (hd : H dx = some (.xd fs)) :
    ∃ od, PySem.W.InstAt s.heap a oe D (some od) := by
  obtain ⟨hget, _⟩ := I.pin (a, oe) (List.mem_append.mpr (.inl List.mem_cons_self))
  obtain ⟨mA, hns, hr⟩ := (show ObjOk X.prog X.w H s.heap dx (.xd fs) from I.hok dx _ hd)
  obtain ⟨od, ho, hl⟩ := lookIn_ns hns
  obtain ⟨vs, hv⟩ := hf
  exact ⟨od, hget, hz.1, by unfold PySem.W.notCls; rw [hv] <;> rfl, by rw [hz.2]; exact ho⟩
/-- isinstance(e, c), e the exception that the suite holds; its dict stands -/
def rIsX (K : PySem.W.Frag) (D a dx : Addr) : List V → Hp → VK → Prop := fun xs H Q => ∃ (c : V) (cv : Value) (b : Bool) (fs : List (Str × V)), xs = [.ref a, c] ∧ ClsV c cv ∧ PySem.W.kitOne K (.ref D) cv = some b ∧ H dx = some (.xd fs) ∧ Q (.bl b) H
theorem call_isX (C : ExcC X.K D) (hz : Zc (.ref D) (some dx) oe) (hf : ∃ vs, oe.data = .fields vs) : CallR (X.suite a ((a, oe) :: pn)) (.builtin "isinstance") (rIsX X.K D a dx) := by
  intro pins s σ H xs us Q I r h
  obtain ⟨c, cv, b, fs, rfl, hcv, e, hd, q⟩ := h
  obtain ⟨u1, u2, rfl, r1, r2⟩ := vals2 r
  cases (show u1 = Value.ref a from r1)
  have ec := hcv.eq r2
  subst ec
  obtain ⟨od, J⟩ := exc_inst I hz hf hd
  exact PySem.W.kia_one (kitx_excD C) I.kIn J e (fun z => nomatch z) fun tk => ⟨.bl b, H, I.kept (t' := tk) fun _ _ z => z, rfl, q⟩
/-- .. of some classes -/
def rIsXT (K : PySem.W.Frag) (D a dx : Addr) : List V → Hp → VK → Prop := fun xs H Q => ∃ (tp : Addr) (cs : List V) (ws : List Value) (b : Bool) (fs : List (Str × V)), xs = [.ref a, .ref tp] ∧ H tp = some (.tup cs) ∧ Paired ClsV cs ws ∧ PySem.W.kitAny K (.ref D) ws = some b ∧ H dx = some (.xd fs) ∧ Q (.bl b) H
theorem call_isXT (C : ExcC X.K D) (hz : Zc (.ref D) (some dx) oe) (hf : ∃ vs, oe.data = .fields vs) : CallR (X.suite a ((a, oe) :: pn)) (.builtin "isinstance") (rIsXT X.K D a dx) := by
  intro pins s σ H xs us Q I r h
  obtain ⟨tp, cs, ws, b, fs, rfl, hT, k, e, hd, q⟩ := h
  obtain ⟨u1, u2, rfl, r1, r2⟩ := vals2 r
  cases (show u1 = Value.ref a from r1)
  cases (show u2 = Value.ref tp from r2)
  obtain ⟨_, its, rv, o, g1, g2, n, g3⟩ := (show ObjOk X.prog X.w H s.heap tp (.tup cs) from I.hok tp _ hT)
  have e3 := ClsV.all k rv
  subst e3
  obtain ⟨oc, oda, dt, sl⟩ := o
  simp only at g2 g3
  subst g2 g3
  obtain ⟨od, J⟩ := exc_inst I hz hf hd
  exact PySem.W.kia_tup (kitx_excD C) I.kIn J g1 e (fun z => nomatch z) fun tk => ⟨.bl b, H, I.kept (t' := tk) fun _ _ z => z, rfl, q⟩
end
end DL

set_option linter.all false
set_option maxRecDepth 100000
set_option maxHeartbeats 2000000
/-! DL.Hrd2: what a suite says of its exception. -/
namespace DL
open PySem L2 PySem.Spec PyProof.Rows
/-- the heap grows by things that are no places -/
structure Gr (K : KW) (μ : Mu) (S : Store) (H H' : Hp) : Prop where
  rs : RelS K μ S H'
  ext : Ext K μ H μ H'
  all : ∀ b o, H b = some o → H' b = some o
section
variable {K : KW} {T : Tb} {μ : Mu} {S : Store} {H H' H'' : Hp}
theorem Gr.refl (rs : RelS K μ S H) : Gr K μ S H H := ⟨rs, .refl, fun _ _ h => h⟩
theorem Gr.trans (a : Gr K μ S H H') (b : Gr K μ S H' H'') : Gr K μ S H H'' := ⟨b.rs, a.ext.trans b.ext, fun x o h => b.all x o (a.all x o h)⟩
theorem Gr.new {p : Addr} {o : HO} (rs : RelS K μ S H) (hp : H p = none) : Gr K μ S H (upd H p o) :=
  let ⟨h1, h2⟩ := rs.new (o := o) hp
  ⟨h1, h2, fun b u e => by rw [upd_ne (ne_of_none e hp)]; exact e⟩
/-- how a suite stands: the exception at a, of the class number c, d at its field; slot fi holds it -/
structure HSt (K : KW) (T : Tb) (μ : Mu) (S : Store) (env : Env) (c : Nat) (d : D) (a dx : Addr) (fi : Nat) (σ : L2.St) (H : Hp) : Prop where
  rs : RelS K μ S H
  re : RelE K μ H env σ
  x : ∃ v, H dx = some (.xd [(T.cf c, v)]) ∧ Rep K μ H v d
  sl : σ[fi]? = some (some (.ref a))
theorem HSt.gr {env : Env} {c : Nat} {d : D} {a dx : Addr} {fi : Nat} {σ : L2.St} (h : HSt K T μ S env c d a dx fi σ H) (g : Gr K μ S H H') : HSt K T μ S env c d a dx fi σ H' :=
  ⟨g.rs, h.re.mono g.ext, let ⟨v, h1, h2⟩ := h.x; ⟨v, g.all _ _ h1, g.ext.mono _ _ h2⟩, h.sl⟩
/-- a suite's expression -/
def tH (K : KW) (T : Tb) (c : Nat) (a dx : Addr) (fi : Nat) (e : HE) : TE := fun σ H Q => ∃ μ S env d, HSt K T μ S env c d a dx fi σ H ∧ ∃ z, hev c d env e = some z ∧ ∀ v H', Gr K μ S H H' → Rep K μ H' v z → Q v H'
def tHL (K : KW) (T : Tb) (c : Nat) (a dx : Addr) (fi : Nat) (l : List HE) : TA := fun σ H Q => ∃ μ S env d, HSt K T μ S env c d a dx fi σ H ∧ ∃ z, hevs c d env l = some z ∧ ∀ v H', Gr K μ S H H' → RepL K μ H' v z → Q v H'
def tHT (K : KW) (T : Tb) (c : Nat) (a dx : Addr) (fi : Nat) (e : HE) : TT := fun σ H Q => ∃ μ S env d, HSt K T μ S env c d a dx fi σ H ∧ ∃ b, hev c d env e = some (.bool b) ∧ ∀ H', Gr K μ S H H' → Q b H'
/-- a suite's expression, as a value, as a test, within and, or -/
structure SdH (T : Tb) (Y : Cx) (c : Nat) (a dx : Addr) (fi : Nat) (x : HE) (e : Expr) : Prop where
  pe : PE Y e (tH Y.kw T c a dx fi x)
  pt : PT Y e (tHT Y.kw T c a dx fi x)
  pw : ∀ o l p, e = .BoolOp o l p → PW Y e (tHT Y.kw T c a dx fi x)
theorem rep_bool {v : V} {b : Bool} (r : Rep K μ H v (.bool b)) : v = .bl b := by cases r; rfl
theorem tHT_tH {c : Nat} {a dx : Addr} {fi : Nat} {e : HE} {σ : L2.St} {Q : Bool → Hp → Prop} (h : tHT K T c a dx fi e σ H Q) : tH K T c a dx fi e σ H fun x H1 => ∃ k, x = .bl k ∧ Q k H1 := by
  obtain ⟨μ, S, env, d, st, b, hb, q⟩ := h
  exact ⟨μ, S, env, d, st, _, hb, fun v H' g r => ⟨b, rep_bool r, q H' g⟩⟩
end
section
variable {T : Tb} {Y : Cx} {c : Nat} {a dx : Addr} {fi : Nat} {x y z : HE} {e e1 e2 e3 : Expr} {pos : Pos}
theorem SdH.plain (h : PE Y e (tH Y.kw T c a dx fi x)) (he : ∀ whole, isTrue e Y.env whole = (do let v ← whole; standAt e.pos; holding [v] (truthy v))) (hb : ∀ o l p, e ≠ .BoolOp o l p) : SdH T Y c a dx fi x e :=
  ⟨h, PT_imp (pt_val h he) fun σ H Q h => tHT_tH h, fun o l p q => absurd q (hb o l p)⟩
theorem h_const {d : D} {v : V} (h : PE Y e (fun _ H Q => Q v H)) (r : ∀ μ H, Rep Y.kw μ H v d) : PE Y e (tH Y.kw T c a dx fi (.c d)) :=
  PE_imp h fun σ H Q ⟨μ, S, env, d', st, z, hz, q⟩ => by cases hz; exact q v H (.refl st.rs) (r μ H)
theorem h_var {i : Nat} {nm : Str} (hN : Y.N[i]? = some nm) (hv : Vis Y.env.scope nm) (hd : (nm == ("__debug__" : Str)) = false) (hcd : (nm == ("__classdict__" : Str)) = false) : PE Y (.Name nm pos) (tH Y.kw T c a dx fi (.v i)) := by
  refine PE_imp (pe_var hN hv hd hcd) fun σ H Q ⟨μ, S, env, d', st, z, hz, q⟩ => ?_
  simp only [hev] at hz
  split at hz
  · rename_i z' hi
    cases hz
    obtain ⟨v, e1, r1⟩ := st.re.at_ i _ hi
    exact ⟨v, e1, q v H (.refl st.rs) r1⟩
  · cases hz
theorem h_not (h1 : SdH T Y c a dx fi x e) : SdH T Y c a dx fi (.not x) (.UnaryOp .Not e pos) := by
  refine ⟨PE_imp (pe_not h1.pe) fun σ H Q ⟨μ, S, env, d, st, z, hz, q⟩ => ?_, PT_imp (pt_not h1.pt) fun σ H Q ⟨μ, S, env, d, st, b, hb, q⟩ => ?_, fun o l p q => by cases q⟩
  · simp only [hev] at hz
    split at hz
    · rename_i k hk
      cases hz
      exact ⟨μ, S, env, d, st, _, hk, fun v H' g r => ⟨k, rep_bool r, q _ _ g (.bl _)⟩⟩
    · cases hz
  · simp only [hev] at hb
    split at hb
    · rename_i k hk
      cases hb
      exact ⟨μ, S, env, d, st, _, hk, fun H' g => q _ g⟩
    · cases hb
theorem hev_and {d : D} {env : Env} {z : D} (h : hev c d env (.and x y) = some z) : (hev c d env x = some (.bool true) ∧ hev c d env y = some z) ∨ (hev c d env x = some (.bool false) ∧ z = .bool false) := by
  simp only [hev] at h
  split at h
  · rename_i hx; exact .inl ⟨hx, h⟩
  · rename_i hx; cases h; exact .inr ⟨hx, rfl⟩
  · cases h
theorem hev_or {d : D} {env : Env} {z : D} (h : hev c d env (.or x y) = some z) : (hev c d env x = some (.bool true) ∧ z = .bool true) ∨ (hev c d env x = some (.bool false) ∧ hev c d env y = some z) := by
  simp only [hev] at h
  split at h
  · rename_i hx; cases h; exact .inl ⟨hx, rfl⟩
  · rename_i hx; exact .inr ⟨hx, h⟩
  · cases h
variable {rest : List Expr}
theorem hw_and (ha : PT Y e (tHT Y.kw T c a dx fi x)) (hb : PW Y (.BoolOp .And (e1 :: rest) pos) (tHT Y.kw T c a dx fi y)) : PW Y (.BoolOp .And (e :: e1 :: rest) pos) (tHT Y.kw T c a dx fi (.and x y)) := by
  refine ⟨fun wh pins s σ H Q I ⟨μ, S, env, d, st, b, hb', q⟩ => (pw_and ha hb).run wh pins s σ H Q I ?_⟩
  rcases hev_and hb' with ⟨k1, k2⟩ | ⟨k1, k2⟩
  · exact ⟨μ, S, env, d, st, true, k1, fun H' g => ⟨μ, S, env, d, st.gr g, b, k2, fun H'' g' => q H'' (g.trans g')⟩⟩
  · cases k2
    exact ⟨μ, S, env, d, st, false, k1, fun H' g => q H' g⟩
theorem hw_or (ha : PT Y e (tHT Y.kw T c a dx fi x)) (hb : PW Y (.BoolOp .Or (e1 :: rest) pos) (tHT Y.kw T c a dx fi y)) : PW Y (.BoolOp .Or (e :: e1 :: rest) pos) (tHT Y.kw T c a dx fi (.or x y)) := by
  refine ⟨fun wh pins s σ H Q I ⟨μ, S, env, d, st, b, hb', q⟩ => (pw_or ha hb).run wh pins s σ H Q I ?_⟩
  rcases hev_or hb' with ⟨k1, k2⟩ | ⟨k1, k2⟩
  · cases k2
    exact ⟨μ, S, env, d, st, true, k1, fun H' g => q H' g⟩
  · exact ⟨μ, S, env, d, st, false, k1, fun H' g => ⟨μ, S, env, d, st.gr g, b, k2, fun H'' g' => q H'' (g.trans g')⟩⟩
theorem he_and (ha : PE Y e (tH Y.kw T c a dx fi x)) (hb : PE Y (.BoolOp .And (e1 :: rest) pos) (tH Y.kw T c a dx fi y)) : PE Y (.BoolOp .And (e :: e1 :: rest) pos) (tH Y.kw T c a dx fi (.and x y)) := by
  refine PE_imp (pe_and ha hb) fun σ H Q ⟨μ, S, env, d, st, z, hz, q⟩ => ?_
  rcases hev_and hz with ⟨k1, k2⟩ | ⟨k1, k2⟩
  · exact ⟨μ, S, env, d, st, _, k1, fun v H' g r => ⟨true, rep_bool r, μ, S, env, d, st.gr g, z, k2, fun v' H'' g' r' => q v' H'' (g.trans g') r'⟩⟩
  · subst k2
    exact ⟨μ, S, env, d, st, _, k1, fun v H' g r => ⟨false, rep_bool r, q _ H' g (.bl false)⟩⟩
theorem he_or (ha : PE Y e (tH Y.kw T c a dx fi x)) (hb : PE Y (.BoolOp .Or (e1 :: rest) pos) (tH Y.kw T c a dx fi y)) : PE Y (.BoolOp .Or (e :: e1 :: rest) pos) (tH Y.kw T c a dx fi (.or x y)) := by
  refine PE_imp (pe_or ha hb) fun σ H Q ⟨μ, S, env, d, st, z, hz, q⟩ => ?_
  rcases hev_or hz with ⟨k1, k2⟩ | ⟨k1, k2⟩
  · subst k2
    exact ⟨μ, S, env, d, st, _, k1, fun v H' g r => ⟨true, rep_bool r, q _ H' g (.bl true)⟩⟩
  · exact ⟨μ, S, env, d, st, _, k1, fun v H' g r => ⟨false, rep_bool r, μ, S, env, d, st.gr g, z, k2, fun v' H'' g' r' => q v' H'' (g.trans g') r'⟩⟩
theorem hev_ite {d : D} {env : Env} {v : D} (h : hev c d env (.ite x y z) = some v) : (hev c d env x = some (.bool true) ∧ hev c d env y = some v) ∨ (hev c d env x = some (.bool false) ∧ hev c d env z = some v) := by
  simp only [hev] at h
  split at h
  · rename_i hx; exact .inl ⟨hx, h⟩
  · rename_i hx; exact .inr ⟨hx, h⟩
  · cases h
theorem he_ite (h1 : PT Y e1 (tHT Y.kw T c a dx fi x)) (h2 : PE Y e2 (tH Y.kw T c a dx fi y)) (h3 : PE Y e3 (tH Y.kw T c a dx fi z)) : PE Y (.IfExp e1 e2 e3 pos) (tH Y.kw T c a dx fi (.ite x y z)) := by
  refine PE_imp (pe_ifExp h1 h2 h3) fun σ H Q ⟨μ, S, env, d, st, v, hv, q⟩ => ?_
  rcases hev_ite hv with ⟨k1, k2⟩ | ⟨k1, k2⟩
  · exact ⟨μ, S, env, d, st, true, k1, fun H' g => ⟨μ, S, env, d, st.gr g, v, k2, fun v' H'' g' r' => q v' H'' (g.trans g') r'⟩⟩
  · exact ⟨μ, S, env, d, st, false, k1, fun H' g => ⟨μ, S, env, d, st.gr g, v, k2, fun v' H'' g' r' => q v' H'' (g.trans g') r'⟩⟩
theorem ht_ite (h1 : PT Y e1 (tHT Y.kw T c a dx fi x)) (h2 : PT Y e2 (tHT Y.kw T c a dx fi y)) (h3 : PT Y e3 (tHT Y.kw T c a dx fi z)) : PT Y (.IfExp e1 e2 e3 pos) (tHT Y.kw T c a dx fi (.ite x y z)) := by
  refine ⟨fun pins s σ H Q I ⟨μ, S, env, d, st, b, hb, q⟩ => ?_⟩
  have e : ∀ wh, isTrue (.IfExp e1 e2 e3 pos) Y.env wh = (do if ← isTrue e1 Y.env (eval e1 Y.env) then isTrue e2 Y.env (eval e2 Y.env) else isTrue e3 Y.env (eval e3 Y.env)) := fun _ => rfl
  rw [e]
  rcases hev_ite hb with ⟨k1, k2⟩ | ⟨k1, k2⟩
  · exact wpAny_bind (thn (h1.run pins s σ H (fun k H1 => k = true ∧ Gr Y.kw μ S H H1) I ⟨μ, S, env, d, st, true, k1, fun H' g => ⟨rfl, g⟩⟩) fun k s1 ⟨H1, I1, ek, g⟩ => by
      subst ek
      exact h2.run pins s1 σ H1 Q I1 ⟨μ, S, env, d, st.gr g, b, k2, fun H'' g' => q H'' (g.trans g')⟩)
  · exact wpAny_bind (thn (h1.run pins s σ H (fun k H1 => k = false ∧ Gr Y.kw μ S H H1) I ⟨μ, S, env, d, st, false, k1, fun H' g => ⟨rfl, g⟩⟩) fun k s1 ⟨H1, I1, ek, g⟩ => by
      subst ek
      exact h3.run pins s1 σ H1 Q I1 ⟨μ, S, env, d, st.gr g, b, k2, fun H'' g' => q H'' (g.trans g')⟩)
theorem hs_nil : PA Y [] (tHL Y.kw T c a dx fi []) :=
  PA_imp pa_nil fun σ H Q ⟨μ, S, env, d, st, z, hz, q⟩ => by cases hz; exact q [] H (.refl st.rs) .nil
theorem hs_cons {es : List Expr} {l : List HE} (hn : notStar e = true) (h1 : PE Y e (tH Y.kw T c a dx fi x)) (h2 : PA Y es (tHL Y.kw T c a dx fi l)) : PA Y (e :: es) (tHL Y.kw T c a dx fi (x :: l)) := by
  refine PA_imp (pa_cons h1 h2 (star_cons hn)) fun σ H Q ⟨μ, S, env, d, st, z, hz, q⟩ => ?_
  simp only [hevs] at hz
  split at hz
  · rename_i z1 zs k1 k2
    cases hz
    exact ⟨μ, S, env, d, st, z1, k1, fun v H' g r => ⟨μ, S, env, d, st.gr g, zs, k2, fun vs H'' g' r' => q (v :: vs) H'' (g.trans g') (.cons (g'.ext.mono _ _ r) r')⟩⟩
  · cases hz
theorem hevs_len {d : D} {env : Env} : ∀ {l : List HE} {zs : List D}, hevs c d env l = some zs → zs.length = l.length
  | [], zs, h => by cases h; rfl
  | x :: l, zs, h => by
    simp only [hevs] at h
    split at h
    · rename_i z1 zs' k1 k2
      cases h
      simp [hevs_len k2]
    · cases h
theorem h_tup {es : List Expr} {l : List HE} {k : Nat} (hl : l.length ≤ 1000) (h : PA Y es (tHL Y.kw T c a dx fi l)) : PE Y (.Tuple es k pos) (tH Y.kw T c a dx fi (.tup l)) := by
  refine PE_imp (pe_tup h) fun σ H Q ⟨μ, S, env, d, st, z, hz, q⟩ => ?_
  simp only [hev, Option.map_eq_some_iff] at hz
  obtain ⟨zs, hz, rfl⟩ := hz
  refine ⟨μ, S, env, d, st, zs, hz, fun vs H' g r => ⟨?_, fun p hp => ?_⟩⟩
  · rw [r.length, hevs_len hz, sizeLine_eq]; omega
  · have g' := Gr.new (o := .tup vs) g.rs hp
    exact q _ _ (g.trans g') (.tup (.inl (.inl upd_same)) (g'.ext.monoL r))
end
end DL

set_option linter.all false
set_option maxRecDepth 100000
set_option maxHeartbeats 2000000
/-! DL.Hrd3: a suite that is checked is sound. -/
namespace DL
open PySem L2 PySem.Spec PyProof.Rows
theorem mem_of_lookup2 {α β : Type} [BEq α] [LawfulBEq α] {x : α} {v : β} : ∀ {l : List (α × β)}, l.lookup x = some v → (x, v) ∈ l
  | [], h => by cases h
  | (y, u) :: l, h => by
    rw [List.lookup_cons] at h
    cases hb : x == y with
    | true =>
      rw [hb] at h
      cases h
      rw [eq_of_beq hb]
      exact List.mem_cons_self ..
    | false =>
      rw [hb] at h
      exact List.mem_cons_of_mem _ (mem_of_lookup2 h)
theorem pe_cls {Y : Cx} {y : Str} {v : V} {cv : Value} {p : Pos} (hg : Gl Y y) (hd : (y == ("__debug__" : Str)) = false) (h : NameV Y.mg y v cv) : PE Y (.Name y p) (fun _ H Q => Q v H) := by
  obtain ⟨k, h | ⟨h1, h2, h3⟩⟩ := h
  · exact pe_glob hg h (by cases k <;> rfl) hd
  · exact pe_bltn hg h1 h2 (by cases k <;> rfl) h3 hd
theorem nameOf_eq {e : Expr} {x : Str} (h : nameOf e = some x) : ∃ p, e = .Name x p := by
  cases e <;> simp [nameOf] at h
  exact ⟨_, by rw [h]⟩
/-- where a suite stands -/
structure SuC (B : Tabs) (T : Tb) (K : PySem.W.Frag) (mg : Str → Option Value) : Prop where
  cst : ∀ x d, B.cst.lookup x = some d → ∃ v u, mg x = some u ∧ RelV v u ∧ ∀ (kw : KW) μ H, kw.K = K → Rep kw μ H v d
section
variable {B : Tabs} {T : Tb} {F : FS} {n : Nat} {X : Cx} {a dx : Addr} {oe : Obj} {pn : List (Addr × Obj)} {c fi : Nat} {fx : Str} {yes : List Nat}
theorem h_ck {d : D} {e : Expr} (gf : GF B T F n X.prog X.w X.K X.mg X.base) (h : ckC B X.env.scope d e = true) : PE (Cx.suite X a ((a, oe) :: pn)) e (tH X.kw T c a dx fi (.c d)) := by
  cases e with
  | Constant k j p =>
    cases k with
    | int i =>
      obtain rfl : d = .int i := beqD_eq (by simpa [ckC] using h)
      exact h_const (Y := Cx.suite X a ((a, oe) :: pn)) (v := .int i) pe_int fun _ _ => .int _
    | bool i =>
      obtain rfl : d = .bool i := beqD_eq (by simpa [ckC] using h)
      exact h_const (Y := Cx.suite X a ((a, oe) :: pn)) (v := .bl i) pe_bl fun _ _ => .bl _
    | none =>
      obtain rfl : d = .none := beqD_eq (by simpa [ckC] using h)
      exact h_const (Y := Cx.suite X a ((a, oe) :: pn)) (v := .non) pe_non fun _ _ => .non
    | str i =>
      obtain rfl : d = .str i := beqD_eq (by simpa [ckC] using h)
      exact h_const (Y := Cx.suite X a ((a, oe) :: pn)) (v := .str i) pe_str fun _ _ => .str _
    | _ => simp [ckC] at h
  | Name x p =>
    simp only [ckC, Bool.and_eq_true, Bool.not_eq_true'] at h
    obtain ⟨⟨h1, h2⟩, h3⟩ := h
    split at h3
    · rename_i d' hl
      rw [beqD_eq h3]
      obtain ⟨v, u, k1, k2, k3⟩ := gf.cst x d' hl
      exact h_const (Y := Cx.suite X a ((a, oe) :: pn)) (pe_glob (X := Cx.suite X a ((a, oe) :: pn)) (gl_of h1) k1 k2 h2) k3
    · cases h3
  | _ => simp [ckC] at h
theorem pe_fault {p : Pos} (hN : X.N[fi]? = some fx) (hv : X.env.scope.names.lookup fx = some .local) (hd : (fx == ("__debug__" : Str)) = false) (hcd : (fx == ("__classdict__" : Str)) = false) : PE (Cx.suite X a ((a, oe) :: pn)) (.Name fx p) (tVar fi) := pe_var (X := Cx.suite X a ((a, oe) :: pn)) hN (.inl hv) hd hcd
theorem h_at {f : Str} {p p2 : Pos} (xc : XcFact X.K (T.ca c) f) (hf' : T.cf c = f) (hz : Zc (.ref (T.ca c)) (some dx) oe) (hf : ∃ vs, oe.data = .fields vs)
    (hN : X.N[fi]? = some fx) (hv : X.env.scope.names.lookup fx = some .local) (hd : (fx == ("__debug__" : Str)) = false) (hcd : (fx == ("__classdict__" : Str)) = false) :
    PE (Cx.suite X a ((a, oe) :: pn)) (.Attribute (.Name fx p) f p2) (tH X.kw T c a dx fi .at_) := by
  refine PE_imp (pe_xf (X := X) (C := T.ca c) xc.xf xc.no hz hf (pe_fault hN hv hd hcd)) fun σ H Q ⟨μ, S, env, d, st, z, hz', q⟩ => ?_
  cases hz'
  obtain ⟨v, h1, h2⟩ := st.x
  exact ⟨.ref a, st.sl, rfl, rfl, dx, _, v, rfl, h1, by rw [hf']; simp [List.lookup_cons], q v H (.refl st.rs) h2⟩
theorem h_is1 {b : Bool} {tb : List (Nat × Bool)} {y : Str} {v : V} {cv : Value} {p p2 p3 p4 : Pos} (hg : Gl X "isinstance") (hm : X.mg "isinstance" = none) (nv : NameV X.mg y v cv) (hgy : Gl X y) (hdy : (y == ("__debug__" : Str)) = false) (ko : PySem.W.kitOne X.K (.ref (T.ca c)) cv = some b) (xi : ExcC X.K (T.ca c))
    (hb : tb.lookup c = some b) (hz : Zc (.ref (T.ca c)) (some dx) oe) (hf : ∃ vs, oe.data = .fields vs)
    (hN : X.N[fi]? = some fx) (hv : X.env.scope.names.lookup fx = some .local) (hd : (fx == ("__debug__" : Str)) = false) (hcd : (fx == ("__classdict__" : Str)) = false) :
    PE (Cx.suite X a ((a, oe) :: pn)) (.Call (.Name "isinstance" p) [.Name fx p2, .Name y p3] [] p4) (tH X.kw T c a dx fi (.is tb)) := by
  refine PE_imp (pe_callB (X := Cx.suite X a ((a, oe) :: pn)) (call_isX xi hz hf) hg hm (by decide +kernel) (pa_cons (pe_fault hN hv hd hcd) (pa_cons (pe_cls (Y := Cx.suite X a ((a, oe) :: pn)) hgy hdy nv) pa_nil))) fun σ H Q ⟨μ, S, env, d, st, z, hz', q⟩ => ?_
  simp only [hev, hb, Option.map_some, Option.some.injEq] at hz'
  subst hz'
  obtain ⟨v', h1, h2⟩ := st.x
  exact ⟨.ref a, st.sl, v, cv, b, _, rfl, nv.1, ko, h1, q _ H (.refl st.rs) (.bl b)⟩
/-- a row of classes -/
theorem pa_cls {Y : Cx} : ∀ {es : List Expr} {ys : List Str}, namesOf es = some ys → (∀ y ∈ ys, Gl Y y ∧ (y == ("__debug__" : Str)) = false ∧ ∃ v cv, NameV Y.mg y v cv) → ∃ (vs : List V) (cvs : List Value), vs.length = ys.length ∧ Paired ClsV vs cvs ∧ (∀ i : Nat, ∀ y cv, ys[i]? = some y → cvs[i]? = some cv → ∃ v, NameV Y.mg y v cv) ∧ cvs.length = ys.length ∧ PA Y es (fun _ H Q => Q vs H)
  | [], ys, h, _ => by
    cases h
    exact ⟨[], [], rfl, .nil, (fun i y cv h => nomatch h), rfl, pa_nil⟩
  | e :: es, ys, h, hk => by
    simp only [namesOf] at h
    split at h
    · rename_i y0 ys0 e1 e2
      cases h
      obtain ⟨p, rfl⟩ := nameOf_eq e1
      obtain ⟨hg, hd, v, cv, nv⟩ := hk y0 List.mem_cons_self
      obtain ⟨vs, cvs, l1, k1, k2, l2, k3⟩ := pa_cls (Y := Y) e2 fun y hy => hk y (List.mem_cons_of_mem _ hy)
      refine ⟨v :: vs, cv :: cvs, by simp [l1], .cons nv.1 k1, fun i y cv' h1 h2 => ?_, by simp [l2], PA_imp (pa_cons (pe_cls hg hd nv) k3) fun σ H Q h => h⟩
      cases i with
      | zero => simp at h1 h2; subst h1 h2; exact ⟨v, nv⟩
      | succ i => exact k2 i y cv' (by simpa using h1) (by simpa using h2)
    · cases h
theorem h_isT {b : Bool} {tb : List (Nat × Bool)} {es : List Expr} {vs : List V} {cvs : List Value} {j : Nat} {p p2 p3 p4 : Pos} (hg : Gl X "isinstance") (hm : X.mg "isinstance" = none) (pv : PA (Cx.suite X a ((a, oe) :: pn)) es (fun _ H Q => Q vs H)) (hl : vs.length ≤ 1000) (k : Paired ClsV vs cvs) (ko : PySem.W.kitAny X.K (.ref (T.ca c)) cvs = some b) (xi : ExcC X.K (T.ca c))
    (hb : tb.lookup c = some b) (hz : Zc (.ref (T.ca c)) (some dx) oe) (hf : ∃ vs, oe.data = .fields vs)
    (hN : X.N[fi]? = some fx) (hv : X.env.scope.names.lookup fx = some .local) (hd : (fx == ("__debug__" : Str)) = false) (hcd : (fx == ("__classdict__" : Str)) = false) :
    PE (Cx.suite X a ((a, oe) :: pn)) (.Call (.Name "isinstance" p) [.Name fx p2, .Tuple es j p3] [] p4) (tH X.kw T c a dx fi (.is tb)) := by
  refine PE_imp (pe_callB (X := Cx.suite X a ((a, oe) :: pn)) (call_isXT xi hz hf) hg hm (by decide +kernel) (pa_cons (pe_fault hN hv hd hcd) (pa_cons (pe_tup pv) pa_nil))) fun σ H Q ⟨μ, S, env, d, st, z, hz', q⟩ => ?_
  simp only [hev, hb, Option.map_some, Option.some.injEq] at hz'
  subst hz'
  obtain ⟨v', h1, h2⟩ := st.x
  refine ⟨.ref a, st.sl, by rw [sizeLine_eq]; omega, fun tp htp => ?_⟩
  have g := Gr.new (o := .tup vs) st.rs htp
  exact ⟨tp, vs, cvs, b, _, rfl, upd_same, k, ko, g.all _ _ h1, q _ _ g (.bl b)⟩
theorem kitAny_of (gf : GF B T F n X.prog X.w X.K X.mg X.base) : ∀ {ys : List Str} {cvs : List Value} {b : Bool}, istAll B c ys = some b → (∀ y ∈ ys, (B.ist.lookup (c, y)).isSome = true) → cvs.length = ys.length → (∀ i : Nat, ∀ y cv, ys[i]? = some y → cvs[i]? = some cv → ∃ v, NameV X.mg y v cv) → PySem.W.kitAny X.K (.ref (T.ca c)) cvs = some b
  | [], [], b, h, _, _, _ => by cases h; rfl
  | [], _ :: _, _, _, _, hl, _ => by simp at hl
  | _ :: _, [], _, _, _, hl, _ => by simp at hl
  | y :: ys, cv :: cvs, b, h, hs, hl, hn => by
    obtain ⟨v, nv⟩ := hn 0 y cv rfl rfl
    have one : ∀ b', B.ist.lookup (c, y) = some b' → PySem.W.kitOne X.K (.ref (T.ca c)) cv = some b' := fun b' hb' => by
      obtain ⟨⟨v2, cv2, nv2, ko⟩, _⟩ := gf.is c y b' (mem_of_lookup2 hb')
      have : cv2 = cv := by
        rcases nv.2 with m1 | ⟨m1, m2, _⟩ <;> rcases nv2.2 with m3 | ⟨m3, m4, _⟩
        · rw [m1] at m3; cases m3; rfl
        · rw [m1] at m3; cases m3
        · rw [m1] at m3; cases m3
        · rw [m2] at m4; cases m4; rfl
      rw [← this]; exact ko
    simp only [istAll] at h
    unfold PySem.W.kitAny
    split at h
    · rename_i hy
      cases h
      rw [one _ hy]
    · rename_i hy
      rw [one _ hy]
      exact kitAny_of gf h (fun z hz => hs z (List.mem_cons_of_mem _ hz)) (by simpa using hl) fun i z w h1 h2 => hn (i + 1) z w (by simpa using h1) (by simpa using h2)
    · cases h
mutual
theorem sound_h (gf : GF B T F n X.prog X.w X.K X.mg X.base) (hc : c ∈ yes) (hz : Zc (.ref (T.ca c)) (some dx) oe) (hf : ∃ vs, oe.data = .fields vs)
    (hN : X.N[fi]? = some fx) (hv : X.env.scope.names.lookup fx = some .local) (hd : (fx == ("__debug__" : Str)) = false) (hcd : (fx == ("__classdict__" : Str)) = false) : ∀ (x : HE) (e : Expr), ckH B X.N X.env.scope fi fx yes x e = true → SdH T (Cx.suite X a ((a, oe) :: pn)) c a dx fi x e
  | .c d, e, h => by
    have h' : ckC B X.env.scope d e = true := by simpa [ckH] using h
    refine .plain (h_ck gf h') (fun _ => ?_) fun _ _ _ q => ?_
    · cases e <;> first | rfl | (simp [ckC] at h')
    · subst q; simp [ckC] at h'
  | .at_, e, h => by
    unfold ckH at h
    split at h
    · rename_i x p f p2
      simp only [Bool.and_eq_true, beq_iff_eq, List.all_eq_true] at h
      obtain ⟨rfl, h2⟩ := h
      obtain ⟨k1, k2⟩ := gf.xc c f (by simpa using h2 c hc)
      exact .plain (h_at k2 k1 hz hf hN hv hd hcd) (fun _ => rfl) (fun _ _ _ q => by cases q)
    · cases h
  | .is tb, e, h => by
    unfold ckH at h
    split at h
    · rename_i g p x p2 y p3 p4
      simp only [Bool.and_eq_true, beq_iff_eq, List.all_eq_true, Bool.not_eq_true'] at h
      obtain ⟨⟨⟨⟨⟨rfl, hb⟩, rfl⟩, gy⟩, dy⟩, hall⟩ := h
      obtain ⟨g1, g2⟩ := bl_of hb
      have hc' := hall c hc
      split at hc'
      · rename_i b hbl
        obtain ⟨⟨v, cv, nv, ko⟩, xi⟩ := gf.is c y b (mem_of_lookup2 hbl)
        exact .plain (h_is1 g1 (gf.bl _ g2) nv (gl_of gy) dy ko xi (by simpa using hc') hz hf hN hv hd hcd) (fun _ => rfl) (fun _ _ _ q => by cases q)
      · cases hc'
    · rename_i g p x p2 es j p3 p4
      simp only [Bool.and_eq_true, beq_iff_eq] at h
      obtain ⟨⟨⟨rfl, hb⟩, rfl⟩, hall⟩ := h
      obtain ⟨g1, g2⟩ := bl_of hb
      split at hall
      · rename_i ys hys
        simp only [Bool.and_eq_true, List.all_eq_true, Bool.not_eq_true', decide_eq_true_eq] at hall
        obtain ⟨⟨hg, hl⟩, hall⟩ := hall
        obtain ⟨hs, hc'⟩ := hall c hc
        split at hc'
        · rename_i b hbl
          have nvs : ∀ y ∈ ys, ∃ v cv, NameV X.mg y v cv := fun y hy => by
            obtain ⟨b', hb'⟩ := Option.isSome_iff_exists.mp (hs y hy)
            obtain ⟨⟨v, cv, nv, _⟩, _⟩ := gf.is c y b' (mem_of_lookup2 hb')
            exact ⟨v, cv, nv⟩
          obtain ⟨vs, cvs, l1, k1, k2, l2, pv⟩ := pa_cls (Y := Cx.suite X a ((a, oe) :: pn)) hys fun y hy => ⟨gl_of (hg y hy).1, (hg y hy).2, nvs y hy⟩
          have ko := kitAny_of gf hbl hs l2 k2
          have xi : ExcC X.K (T.ca c) := by
            cases ys with
            | nil => exact absurd hl.1 (by decide)
            | cons y ys =>
              obtain ⟨b', hb'⟩ := Option.isSome_iff_exists.mp (hs y List.mem_cons_self)
              exact (gf.is c y b' (mem_of_lookup2 hb')).2
          exact .plain (h_isT g1 (gf.bl _ g2) pv (by rw [l1]; exact hl.2) k1 ko xi (by simpa using hc') hz hf hN hv hd hcd) (fun _ => rfl) (fun _ _ _ q => by cases q)
        · cases hc'
      · cases hall
    · cases h
  | .v i, e, h => by
    cases e with
    | Name x p =>
      simp only [ckH, Bool.and_eq_true, Bool.not_eq_true', beq_iff_eq] at h
      obtain ⟨⟨⟨h1, h2⟩, h3⟩, h4⟩ := h
      exact .plain (h_var (Y := Cx.suite X a ((a, oe) :: pn)) h1 (vis_of h2) h3 h4) (fun _ => rfl) (fun _ _ _ q => by cases q)
    | _ => simp [ckH] at h
  | .not x, e, h => by
    unfold ckH at h
    split at h
    · exact h_not (sound_h gf hc hz hf hN hv hd hcd x _ h)
    · cases h
  | .and x y, e, h => by
    unfold ckH at h
    split at h
    · rename_i e1 e2 pos
      simp only [Bool.and_eq_true] at h
      have ha := sound_h gf hc hz hf hN hv hd hcd x _ h.1
      have hb := sound_h gf hc hz hf hN hv hd hcd y _ h.2
      have w := hw_and (pos := pos) ha.pt (pw_and1 (pos := pos) hb.pt)
      exact ⟨he_and ha.pe (pe_one hb.pe), w.pt, fun o l p q => by cases q; exact w⟩
    · simp only [Bool.and_eq_true] at h
      have ha := sound_h gf hc hz hf hN hv hd hcd x _ h.1
      have hb := sound_h gf hc hz hf hN hv hd hcd y _ h.2
      have w := hw_and ha.pt (hb.pw _ _ _ rfl)
      exact ⟨he_and ha.pe hb.pe, w.pt, fun o l p q => by cases q; exact w⟩
    · cases h
  | .or x y, e, h => by
    unfold ckH at h
    split at h
    · rename_i e1 e2 pos
      simp only [Bool.and_eq_true] at h
      have ha := sound_h gf hc hz hf hN hv hd hcd x _ h.1
      have hb := sound_h gf hc hz hf hN hv hd hcd y _ h.2
      have w := hw_or (pos := pos) ha.pt (pw_or1 (pos := pos) hb.pt)
      exact ⟨he_or ha.pe (pe_one hb.pe), w.pt, fun o l p q => by cases q; exact w⟩
    · simp only [Bool.and_eq_true] at h
      have ha := sound_h gf hc hz hf hN hv hd hcd x _ h.1
      have hb := sound_h gf hc hz hf hN hv hd hcd y _ h.2
      have w := hw_or ha.pt (hb.pw _ _ _ rfl)
      exact ⟨he_or ha.pe hb.pe, w.pt, fun o l p q => by cases q; exact w⟩
    · cases h
  | .ite x y z, e, h => by
    unfold ckH at h
    split at h
    · simp only [Bool.and_eq_true] at h
      have h1 := sound_h gf hc hz hf hN hv hd hcd x _ h.1.1
      have h2 := sound_h gf hc hz hf hN hv hd hcd y _ h.1.2
      have h3 := sound_h gf hc hz hf hN hv hd hcd z _ h.2
      exact ⟨he_ite h1.pt h2.pe h3.pe, ht_ite h1.pt h2.pt h3.pt, fun _ _ _ q => by cases q⟩
    · cases h
  | .tup l, e, h => by
    unfold ckH at h
    split at h
    · simp only [Bool.and_eq_true, decide_eq_true_eq] at h
      exact .plain (h_tup h.1 (sound_hs gf hc hz hf hN hv hd hcd l _ h.2)) (fun _ => rfl) (fun _ _ _ q => by cases q)
    · cases h
theorem sound_hs (gf : GF B T F n X.prog X.w X.K X.mg X.base) (hc : c ∈ yes) (hz : Zc (.ref (T.ca c)) (some dx) oe) (hf : ∃ vs, oe.data = .fields vs)
    (hN : X.N[fi]? = some fx) (hv : X.env.scope.names.lookup fx = some .local) (hd : (fx == ("__debug__" : Str)) = false) (hcd : (fx == ("__classdict__" : Str)) = false) : ∀ (l : List HE) (es : List Expr), ckHs B X.N X.env.scope fi fx yes l es = true → PA (Cx.suite X a ((a, oe) :: pn)) es (tHL X.kw T c a dx fi l)
  | [], es, h => by
    cases es with
    | nil => exact hs_nil
    | cons e es => simp [ckHs] at h
  | x :: l, es, h => by
    cases es with
    | nil => simp [ckHs] at h
    | cons e es =>
      simp only [ckHs, Bool.and_eq_true] at h
      exact hs_cons h.1.1 (sound_h gf hc hz hf hN hv hd hcd x e h.1.2).pe (sound_hs gf hc hz hf hN hv hd hcd l es h.2)
end
end
end DL

set_option linter.all false
set_option maxRecDepth 100000
set_option maxHeartbeats 2000000
/-! DL.Hrd4: suites whole; a def that calls what it got, called. -/
namespace DL
open PySem L2 PySem.Spec PyProof.Rows
/-- a suite's statements -/
def tHS (K : KW) (T : Tb) (c : Nat) (a dx : Addr) (fi : Nat) (l : List HS) : TS := fun D σ H => ∃ μ S env d, HSt K T μ S env c d a dx fi σ H ∧ ∃ o, hrun c d l env = some o ∧ match o with
  | .rt z => ∀ v H', Gr K μ S H H' → Rep K μ H' v z → D.rt v H'
  | .nx env' => ∀ σ' H', Gr K μ S H H' → RelE K μ H' env' σ' → D.nx σ' H'
section
variable {B : Tabs} {T : Tb} {F : FS} {n : Nat} {X : Cx} {a dx : Addr} {oe : Obj} {pn : List (Addr × Obj)} {c fi : Nat} {fx : Str} {yes : List Nat}
theorem sw_no {e t : Expr} {line : Nat} {env : PySem.Env} (h : noComp e = true) : swapsWith e (some t) line env = pure false := by
  cases e <;> first | rfl | (simp [noComp] at h)
theorem sound_HS (gf : GF B T F n X.prog X.w X.K X.mg X.base) (hc : c ∈ yes) (hz : Zc (.ref (T.ca c)) (some dx) oe) (hf : ∃ vs, oe.data = .fields vs) (nd : X.N.Nodup)
    (hN : X.N[fi]? = some fx) (hv : X.env.scope.names.lookup fx = some .local) (hd : (fx == ("__debug__" : Str)) = false) (hcd : (fx == ("__classdict__" : Str)) = false) : ∀ (l : List HS) (ss : List Stmt), ckHS B X.N X.env.scope fi fx yes l ss = true → PSs (Cx.suite X a ((a, oe) :: pn)) ss (tHS X.kw T c a dx fi l)
  | [], ss, h => by
    cases ss with
    | cons s ss => simp [ckHS] at h
    | nil =>
      refine PSs_imp pss_nil fun D σ H ⟨μ, S, env, d, st, o, ho, q⟩ => ?_
      cases ho
      exact q σ H (.refl st.rs) st.re
  | .set i e :: r, ss, h => by
    unfold ckHS at h
    split at h
    · rename_i y py ex sp ss'
      simp only [Bool.and_eq_true, beq_iff_eq, decide_eq_true_eq] at h
      obtain ⟨⟨⟨⟨⟨h1, h2⟩, h3⟩, h4⟩, h5⟩, h6⟩ := h
      have k1 := (sound_h (a := a) (pn := pn) gf hc hz hf hN hv hd hcd e _ h5).pe
      have k2 := sound_HS gf hc hz hf nd hN hv hd hcd r _ h6
      refine PSs_imp (pss_cons (ps_set (X := Cx.suite X a ((a, oe) :: pn)) (i := i) nd h1 (.inl h2) k1 (sw_no h4) (.inr h2)) k2) fun D σ H ⟨μ, S, env, d, st, o, ho, q⟩ => ?_
      unfold hrun at ho
      split at ho
      · rename_i z hz'
        refine ⟨μ, S, env, d, st, z, hz', fun v H' g rv => ?_⟩
        have st' := st.gr g
        refine ⟨μ, S, _, d, ⟨st'.rs, st'.re.set i rv, st'.x, ?_⟩, o, ho, ?_⟩
        · rw [List.getElem?_set_ne h3]; exact st'.sl
        · cases o with
          | rt z => exact fun v' H'' g' => q v' H'' (g.trans g')
          | nx env' => exact fun σ' H'' g' => q σ' H'' (g.trans g')
      · cases ho
    · cases h
  | .ret e :: r, ss, h => by
    unfold ckHS at h
    split at h
    · rename_i ex sp ss'
      simp only [Bool.and_eq_true] at h
      have k1 := (sound_h (a := a) (pn := pn) gf hc hz hf hN hv hd hcd e _ h.1).pe
      have k2 := sound_HS gf hc hz hf nd hN hv hd hcd r _ h.2
      refine PSs_imp (pss_cons (ps_ret k1) k2) fun D σ H ⟨μ, S, env, d, st, o, ho, q⟩ => ?_
      simp only [hrun, Option.map_eq_some_iff] at ho
      obtain ⟨z, hz', rfl⟩ := ho
      exact ⟨μ, S, env, d, st, z, hz', q⟩
    · cases h
  | .ifr t e :: r, ss, h => by
    unfold ckHS at h
    split at h
    · rename_i et er rp sp ss'
      simp only [Bool.and_eq_true] at h
      have k0 := (sound_h (a := a) (pn := pn) gf hc hz hf hN hv hd hcd t _ h.1.1).pt
      have k1 := (sound_h (a := a) (pn := pn) gf hc hz hf hN hv hd hcd e _ h.1.2).pe
      have k2 := sound_HS gf hc hz hf nd hN hv hd hcd r _ h.2
      refine PSs_imp (pss_cons (ps_if k0 (pss_cons (ps_ret k1) pss_nil) pss_nil) k2) fun D σ H ⟨μ, S, env, d, st, o, ho, q⟩ => ?_
      unfold hrun at ho
      split at ho
      · rename_i hk
        simp only [Option.map_eq_some_iff] at ho
        obtain ⟨z, hz', rfl⟩ := ho
        exact ⟨μ, S, env, d, st, true, hk, fun H' g => ⟨μ, S, env, d, st.gr g, z, hz', fun v H'' g' => q v H'' (g.trans g')⟩⟩
      · rename_i hk
        refine ⟨μ, S, env, d, st, false, hk, fun H' g => ⟨μ, S, env, d, st.gr g, o, ho, ?_⟩⟩
        cases o with
        | rt z => exact fun v' H'' g' => q v' H'' (g.trans g')
        | nx env' => exact fun σ' H'' g' => q σ' H'' (g.trans g')
      · cases ho
    · cases h
end
/-! ### the def that calls what it got -/
/-- what it makes of the lambda's reading -/
def TTh (K : KW) (T : Tb) (told : Str) (sl : Nat) (yes : List Nat) (l : List HS) : (XK → Hp → VK → Prop) → Hp → VK → Prop := fun tl H Q =>
  tl (fun cls od H' => ∃ c ∈ yes, ∃ dx, cls = .ref (T.ca c) ∧ od = some dx ∧ ∃ μ S d v, RelS K μ S H' ∧ H' dx = some (.xd [(T.cf c, v)]) ∧ Rep K μ H' v d ∧ ∃ z, hrun c d l (List.replicate sl none) = some (.rt z) ∧ ∀ w H'', Gr K μ S H' H'' → Rep K μ H'' w z → Q w H'')
    H (fun v H' => ([V.str told, v] : List V).length ≤ sizeLine ∧ ∀ p, H' p = none → Q (.ref p) (upd H' p (.tup [V.str told, v])))
theorem takes_len {Y : Cx} {W : WX} (tk : Takes Y W) : Takes Y (fun cls d σ H => σ.length = Y.N.length → W cls d σ H) := fun u s' ⟨a, B, sI, pins, σ, H, cls, d, e, I, nb, up, sky, na, os, ag, w⟩ =>
  tk u s' ⟨a, B, sI, pins, σ, H, cls, d, e, I, nb, up, sky, na, os, ag, w I.len⟩
theorem hrd_gives {B : Tabs} {T : Tb} {F : FS} {n : Nat} {X : Cx} {h : HrdS} {x a q : Str} {sg : Scope} {g : Addr} {cdg : Value} {bg : List Stmt} (gf : GF B T F n X.prog X.w X.K X.mg X.base) (Sg : FnScope h.N [a] sg) (hb : ckHrd B sg a h bg = true) :
    LamX.GivesTo X h.N x sg g cdg bg a q (TTh X.kw T h.told h.N.length h.yes h.l) := by
  unfold ckHrd at hb
  split at hb
  · rename_i told j p1 x' p2 p3 k p4 p5 cl p6 f s0 ss p7 p8
    simp only [Bool.and_eq_true, beq_iff_eq, decide_eq_true_eq, Bool.not_eq_true', List.all_eq_true] at hb
    obtain ⟨⟨⟨⟨⟨⟨⟨⟨⟨⟨rfl, rfl⟩, ha0⟩, hva⟩, hda⟩, hca⟩, hgc⟩, hdc⟩, hen⟩, hem⟩, hb⟩ := hb
    split at hb
    · rename_i fi hfi
      simp only [Bool.and_eq_true, beq_iff_eq, decide_eq_true_eq, Bool.not_eq_true'] at hb
      obtain ⟨⟨⟨⟨⟨hNf, hvf⟩, hf0⟩, hdf1⟩, hdf2⟩, hbs⟩ := hb
      obtain ⟨cv, hcv⟩ := gf.en cl (by simpa using hen)
      intro fa c' s H Q tl act hc hq
      refine ⟨_, pss_one (ps_try_as (X := (cxOf C8.CX0 X.prog X.w X.K X.mg X.base h.N x sg g cdg X.A X.stack s H C8.E0).nox) (c := cv) (i := fi)
        (tb := fun W D σ H => ∃ Ech : XK, (∀ cls d σ' H', Ech cls d H' → σ'.length = h.N.length → W cls d σ' H') ∧ σ[0]? = some (some (.ref fa)) ∧ H c' = some (LamX.CodeO c' q) ∧ tl Ech H (fun v H' => ([V.str h.told, v] : List V).length ≤ sizeLine ∧ ∀ p, H' p = none → D.rt (.ref p) (upd H' p (.tup [V.str h.told, v]))))
        (ts := fun a cls d D σ H => ∃ c ∈ h.yes, ∃ dx, cls = .ref (T.ca c) ∧ d = some dx ∧ tHS X.kw T c a dx fi h.l D σ H)
        rfl rfl Sg.nd hNf hvf ⟨gl_of hgc, hdc, .inl hcv⟩ LamX.takes0 (fun W pn xe tk _ => ?_) (fun a oe cls d pn hz hf => ?_)), ?_⟩
      · refine ⟨fun pins s' σ H' D I h' => ?_⟩
        obtain ⟨Ech, hW, h1, h2, h3⟩ := h'
        have hp := act _ pn xe Ech p2 p3 (takes_len tk) (fun cls d σ' H' e l => hW cls d σ' H' e l)
        have hq' := pss_one (ps_ret (pos := p5) (pe_tup (x1 := k) (pos := p4) (pa_cons (pe_str (X := (cxOf C8.CX0 X.prog X.w X.K X.mg X.base h.N x sg g cdg X.A X.stack s H C8.E0).tr pn xe) (x := h.told) (j := j) (pos := p1)) (pa_cons hp pa_nil))))
        exact hq'.run pins s' σ H' D I ⟨h1, h2, h3⟩
      · exact ⟨fun pins s' σ H' D I ⟨c, hc', dx, e1, e2, h'⟩ => by
          subst e1 e2
          exact (sound_HS (a := a) (X := (cxOf C8.CX0 X.prog X.w X.K X.mg X.base h.N x sg g cdg X.A X.stack s H C8.E0).nox) (pn := pn) gf hc' hz hf Sg.nd hNf hvf hdf1 hdf2 h.l _ hbs).run pins s' σ H' D I h'⟩
      · refine ⟨_, fun cls d σ' H' e hl => ?_, ?_, hc, hq⟩
        · obtain ⟨c, hc', dx, rfl, rfl, μ, S, d, v, rs, k1, k2, z, hz, kq⟩ := e
          refine ⟨true, gf.em c cl true (by simpa using hem c hc') cv hcv, fun _ a ha => ?_, fun z => nomatch z⟩
          refine ⟨c, hc', dx, rfl, rfl, μ, S, List.replicate h.N.length none, d, ⟨rs, ⟨by simp [hl], fun i d hi => ?_⟩, ⟨v, k1, k2⟩, ?_⟩, _, hz, kq⟩
          · rw [List.getElem?_replicate] at hi
            split at hi <;> cases hi
          · rw [List.getElem?_set_self]
            rw [hl]
            exact (List.getElem?_eq_some_iff.mp hNf).1
        · unfold L2.start
          simp
    · cases hb
  · cases hb
end DL

set_option linter.all false
set_option maxRecDepth 100000
set_option maxHeartbeats 2000000
/-! DL.Hrd5: f(lambda: e). -/
namespace DL
open PySem L2 PySem.Spec PyProof.Rows
section
variable {K : KW} {μ : Mu} {S : Store} {H H1 : Hp}
/-- all but the tables of code stay -/
theorem RelS.extN (r : RelS K μ S H) (e : LamX.ExtN H H1) (t : LamX.Tabs (tabsOf K.K) H1) : RelS K μ S H1 ∧ Ext K μ H μ H1 := by
  have keepM : ∀ b o, Mt o → H b = some o → H1 b = some o := fun b o m h => e b o h fun ps z => (m.tbl (x := ps)) z.symm
  have k : Keeps μ μ H H1 := by
    refine ⟨fun b xs h => ?_, fun b xs hb h => ⟨hb, e _ _ h (fun ps z => nomatch z)⟩, fun b o u h => e _ _ h (fun ps z => nomatch z), fun _ _ h => h, fun b x h => e _ _ h (fun ps z => nomatch z)⟩
    rcases h with h | ⟨ob, h⟩
    · exact .inl (e _ _ h (fun ps z => nomatch z))
    · exact .inr ⟨ob, e _ _ h (fun ps z => nomatch z)⟩
  have hr : ∀ b ∈ μ.rv, H1 b = H b := fun b hb => by
    obtain ⟨_, xs, h⟩ := r.rv b hb
    rw [h, keepM _ _ (.lst _) h]
  refine ⟨⟨r.len, r.nd, fun n o h => ?_, fun b hb => ?_, t⟩, ⟨⟨[], by simp⟩, fun v d h => Rep.keep k d v h⟩, rfl, hr⟩
  · obtain ⟨a, h1, h2⟩ := r.at_ n o h
    exact ⟨a, h1, h2.keep k fun o m q => keepM _ _ m q⟩
  · obtain ⟨h1, xs, h⟩ := r.rv b hb
    exact ⟨h1, xs, keepM _ _ (.lst _) h⟩
end
theorem noParams_eq {p : Arguments} (h : noParams p = true) : p = { posonlyargs := [], args := [], vararg := none, kwonlyargs := [], kw_defaults := [], kwarg := none, defaults := [] } := by
  obtain ⟨a1, a2, a3, a4, a5, a6, a7⟩ := p
  simp only [noParams, Bool.and_eq_true, List.isEmpty_iff, Option.isNone_iff_eq_none] at h
  obtain ⟨⟨⟨⟨⟨⟨rfl, rfl⟩, rfl⟩, rfl⟩, rfl⟩, rfl⟩, rfl⟩ := h
  rfl
theorem e_heard {B : Tabs} {T : Tb} {F : FS} {n : Nat} {X : Cx} {W : WX} (c : CxOk B T F n X W) {g : Str} {h : HrdS} {params : Arguments} {body : Expr} {scope : Scope} {xe : Ex} {p lpos pos : Pos} (hlam : B.lam = true) (hg : Gl X g) (hd : (g == ("__debug__" : Str)) = false)
    (hl : B.hrd.lookup g = some h) (hs : LamX.lamSB X.env.scope scope = true) (hp : noParams params = true)
    (hb : ∀ (A : Around) (outer : List PySem.Env) (s : Shared) (H : Hp) (E : XK) (f c' : Addr), CxOk B.off T F n (LamX.lamCx X A outer s H E scope f c') (fun cls d _ H => E cls d H) → PE (LamX.lamCx X A outer s H E scope f c') body (tE X.kw T F (fun cls d _ H => E cls d H) xe)) :
    PE X (.Call (.Name g p) [.Lambda params body scope lpos] [] pos) (tE X.kw T F W (.heard h.told h.N.length h.yes h.l xe)) := by
  obtain ⟨L, ⟨cc, P, hcode, TB, hmT, hu⟩⟩ := c.lm hlam
  obtain ⟨ga, a, pg, bg, sg, dV, kV, doc, pm, cdv, ct, oc, an, od, osl, k1, k2, k3, k4, k5, k6, k7⟩ := c.gf.hr g h hl
  have k8 : h.N[0]? = some a ∧ Vis sg a ∧ (a == ("__debug__" : Str)) = false ∧ (a == ("__classdict__" : Str)) = false := by
    unfold ckHrd at k7
    split at k7
    · simp only [Bool.and_eq_true, beq_iff_eq, decide_eq_true_eq, Bool.not_eq_true'] at k7
      obtain ⟨⟨⟨⟨⟨⟨⟨⟨⟨⟨_, _⟩, q1⟩, q2⟩, q3⟩, q4⟩, _⟩, _⟩, _⟩, _⟩, _⟩ := k7
      exact ⟨q1, vis_of q2, q3, q4⟩
    · cases k7
  have ep := noParams_eq hp
  subst ep
  refine PE_imp (LamX.pe_lamcall (k := 3 * n + 2) (TT := TTh X.kw T h.told h.N.length h.yes h.l) (t := fun E => tE X.kw T F (fun cls d _ H => E cls d H) xe) hg k1 k2 k3 k4 k5 k6 k8.1 k8.2.1 (hrd_gives c.gf.off k6 k7) TB hcode hmT hu L (LamX.lamS_by hs) rfl (fun _ _ _ _ _ => rfl)
    (fun A outer s H E f c' hr => hb A outer s H E f c' ⟨c.nd, rfl, hr, takes_of rfl rfl rfl rfl, c.gf.off, fun z => nomatch z⟩) hd k8.2.2.1 k8.2.2.2) fun σ H Q ⟨μ, S, env, rs, re, hq⟩ => ⟨rs.tab, fun H1 eN T1 => ?_⟩
  obtain ⟨rs1, e1⟩ := rs.extN eN T1
  have hq : Post X.kw T μ H (RV X.kw) Q (fun c o H' => W c o σ H') (heardV h.told h.N.length h.yes h.l (ev F xe env S)) := hq
  refine ⟨μ, S, env, rs1, re.mono e1, ?_⟩
  cases hv : ev F xe env S with
  | bad => rw [hv] at hq; exact hq.elim
  | ok d S1 =>
    rw [hv] at hq
    intro z μ' H' rs' e' r'
    refine ⟨by rw [sizeLine_eq]; show 2 ≤ 16777216; decide, fun q hq' => ?_⟩
    obtain ⟨k9, k10⟩ := rs'.new (o := .tup [V.str h.told, z]) hq'
    exact hq _ μ' _ k9 ((e1.trans e').trans k10) (.tup (.inl (.inl upd_same)) (.cons (.str _) (.cons (k10.mono _ _ r') .nil)))
  | exc k d S1 =>
    rw [hv] at hq
    intro cls od μ' H' x rs' e'
    simp only [heardV] at hq
    split at hq
    · rename_i hy
      split at hq
      · rename_i z hz
        obtain ⟨ec, dx, v, ed, q1, q2⟩ := x
        exact ⟨k, by simpa using hy, dx, ec, ed, μ', S1, d, v, rs', q1, q2, z, hz, fun w H'' g r => hq w μ' H'' g.rs ((e1.trans e').trans g.ext) r⟩
      · exact hq.elim
    · exact hq.elim
end DL

set_option linter.all false
set_option maxRecDepth 100000
/-! DL.Snd2: expressions that are checked are sound. -/
namespace DL
open PySem L2 PySem.Spec PyProof.Rows
section
variable {B : Tabs} {T : Tb} {F : FS} {n : Nat} {X : Cx} {W : WX}
theorem sound_c (c : CxOk B T F n X W) {d : D} {e : Expr} (h : ckC B X.env.scope d e = true) : Sd T F X W (.c d) e := by
  cases e with
  | Constant k j p =>
    refine .plain ?_ (fun _ => rfl) (fun _ _ _ q => by cases q)
    cases k with
    | int i =>
      have e : d = .int i := beqD_eq (by simpa [ckC] using h)
      subst e
      exact e_const (v := .int i) pe_int fun _ _ => .int _
    | bool i =>
      have e : d = .bool i := beqD_eq (by simpa [ckC] using h)
      subst e
      exact e_const (v := .bl i) pe_bl fun _ _ => .bl _
    | none =>
      have e : d = .none := beqD_eq (by simpa [ckC] using h)
      subst e
      exact e_const (v := .non) pe_non fun _ _ => .non
    | str i =>
      have e : d = .str i := beqD_eq (by simpa [ckC] using h)
      subst e
      exact e_const (v := .str i) pe_str fun _ _ => .str _
    | _ => simp [ckC] at h
  | Name x p =>
    simp only [ckC, Bool.and_eq_true, Bool.not_eq_true'] at h
    obtain ⟨⟨h1, h2⟩, h3⟩ := h
    split at h3
    · rename_i d' hl
      rw [beqD_eq h3]
      obtain ⟨v, u, k1, k2, k3⟩ := c.gf.cst x d' hl
      exact .plain (e_const (pe_glob (gl_of h1) k1 k2 h2) k3) (fun _ => rfl) (fun _ _ _ q => by cases q)
    · cases h3
  | _ => simp [ckC] at h
theorem nx_kd {kvs : List (Str × D)} {x : D} {S : Store} : NoExc (kdV kvs x S) := fun c d S' h => by
  cases x with
  | str z =>
    simp only [kdV] at h
    cases hl : kvs.lookup z with
    | none => rw [hl] at h; cases h
    | some d => rw [hl] at h; cases h
  | _ => cases h
theorem e_kd {kvs : List (Str × D)} {x : Str} {y : Expr} {xa : Ex} {px pos : Pos} (hg : X.env.scope.names.lookup x = some .globalImplicit) (hdb : (x == ("__debug__" : Str)) = false) (hs : notSlice y = true) (k : KdOk X.K X.w X.mg x kvs) (ha : PE X y (tE X.kw T F W xa)) :
    PE X (.Subscript (.Name x px) y pos) (tE X.kw T F W (.kd kvs xa)) := by
  obtain ⟨a, es, m, k1, k2, k3⟩ := k
  refine PE_imp (pe_ix ix_kdict (pe_glob (u := .ref a) (v := .ref a) hg k1 rfl hdb) ha (plainIx_of hs)) fun σ H Q ⟨μ, S, env, rs, re, h⟩ => ?_
  refine ⟨μ, S, env, rs, re, (Post.bind h).mono fun y H2 ⟨μ2, d2, S2, rs2, e2, r2, h2⟩ => ?_⟩
  obtain ⟨z, S', ez, q⟩ := h2.ok_of nx_kd
  cases d2 with
  | str t =>
    cases r2
    simp only [kdV] at ez
    cases hl : kvs.lookup t with
    | none => rw [hl] at ez; cases ez
    | some d =>
      rw [hl] at ez
      cases ez
      obtain ⟨u, v, q1, q2, q3⟩ := k3 t _ hl
      exact ⟨a, t, v, rfl, rfl, ⟨es, m, u, k2.at_, k2.lit, q1, q2⟩, q _ _ _ rs2 .refl (q3 _ _)⟩
  | _ => cases ez
theorem cal_fn (c : CxOk B T F n X W) {x : Str} {f : Nat} (h : B.fns.lookup x = some f) : FnFact B T F n X.prog X.w X.kw X.mg X.base x f := c.gf.fn x f h
theorem noStarL : ∀ {a b : List Expr}, (a ++ b).all notStar = true → a.all notStar = true ∧ b.all notStar = true := by
  intro a b h
  simpa using h
mutual
theorem sound_e : ∀ (x : Ex) {B : Tabs} {X : Cx} {W : WX} (c : CxOk B T F n X W) (e : Expr), ck B X.N X.env.scope x e = true → Sd T F X W x e
  | .c d, B, X, W, c, e, h => sound_c c (by simpa [ck] using h)
  | .v i, B, X, W, c, e, h => by
    cases e with
    | Name x p =>
      simp only [ck, Bool.and_eq_true, Bool.not_eq_true', beq_iff_eq] at h
      obtain ⟨⟨⟨h1, h2⟩, h3⟩, h4⟩ := h
      exact .plain (e_var h1 (vis_of h2) h3 h4) (fun _ => rfl) (fun _ _ _ q => by cases q)
    | _ => simp [ck] at h
  | .bin o m a b, B, X, W, c, e, h => by
    cases e with
    | BinOp l o' r p =>
      simp only [ck, Bool.and_eq_true, decide_eq_true_eq] at h
      obtain ⟨⟨rfl, h1⟩, h2⟩ := h
      exact .plain (e_bin (sound_e a c l h1).pe (sound_e b c r h2).pe) (fun _ => rfl) (fun _ _ _ q => by cases q)
    | _ => simp [ck] at h
  | .cmp o a b, B, X, W, c, e, h => by
    unfold ck at h
    split at h
    · simp only [Bool.and_eq_true, decide_eq_true_eq, Bool.not_eq_true'] at h
      obtain ⟨⟨⟨rfl, h0⟩, h1⟩, h2⟩ := h
      exact ⟨e_cmp c.hu h0 (sound_e a c _ h1).pe (sound_e b c _ h2).pe, t_cmp c.hu h0 (sound_e a c _ h1).pe (sound_e b c _ h2).pe, fun _ _ _ q => by cases q⟩
    · cases h
  | .chain o o2 a b d, B, X, W, c, e, h => by
    unfold ck at h
    split at h
    · simp only [Bool.and_eq_true, decide_eq_true_eq, Bool.not_eq_true'] at h
      obtain ⟨⟨⟨⟨⟨rfl, rfl⟩, h0⟩, h1⟩, h2⟩, h3⟩ := h
      exact ⟨e_chain c.hu h0 (sound_e a c _ h1).pe (sound_e b c _ h2).pe (sound_e d c _ h3).pe, t_chain c.hu h0 (sound_e a c _ h1).pe (sound_e b c _ h2).pe (sound_e d c _ h3).pe, fun _ _ _ q => by cases q⟩
    · cases h
  | .neg a, B, X, W, c, e, h => by
    unfold ck at h
    split at h
    · exact .plain (e_neg (sound_e a c _ h).pe) (fun _ => rfl) (fun _ _ _ q => by cases q)
    · cases h
  | .not a, B, X, W, c, e, h => by
    unfold ck at h
    split at h
    · exact ⟨e_not (sound_e a c _ h).pe, t_not (sound_e a c _ h).pt, fun _ _ _ q => by cases q⟩
    · cases h
  | .and a b, B, X, W, c, e, h => by
    unfold ck at h
    split at h
    · rename_i x y pos
      simp only [Bool.and_eq_true] at h
      have ha := sound_e a c _ h.1
      have hb := sound_e b c _ h.2
      have w := t_and (pos := pos) ha.pt (pw_and1 (pos := pos) hb.pt)
      exact ⟨e_and ha.pe (pe_one hb.pe), w.pt, fun o l p q => by cases q; exact w⟩
    · simp only [Bool.and_eq_true] at h
      have ha := sound_e a c _ h.1
      have hb := sound_e b c _ h.2
      have w := t_and ha.pt (hb.pw _ _ _ rfl)
      exact ⟨e_and ha.pe hb.pe, w.pt, fun o l p q => by cases q; exact w⟩
    · cases h
  | .or a b, B, X, W, c, e, h => by
    unfold ck at h
    split at h
    · rename_i x y pos
      simp only [Bool.and_eq_true] at h
      have ha := sound_e a c _ h.1
      have hb := sound_e b c _ h.2
      have w := t_or (pos := pos) ha.pt (pw_or1 (pos := pos) hb.pt)
      exact ⟨e_or ha.pe (pe_one hb.pe), w.pt, fun o l p q => by cases q; exact w⟩
    · simp only [Bool.and_eq_true] at h
      have ha := sound_e a c _ h.1
      have hb := sound_e b c _ h.2
      have w := t_or ha.pt (hb.pw _ _ _ rfl)
      exact ⟨e_or ha.pe hb.pe, w.pt, fun o l p q => by cases q; exact w⟩
    · cases h
  | .ite t a b, B, X, W, c, e, h => by
    unfold ck at h
    split at h
    · simp only [Bool.and_eq_true] at h
      have ht := sound_e t c _ h.1.1
      have ha := sound_e a c _ h.1.2
      have hb := sound_e b c _ h.2
      exact ⟨e_ite ht.pt ha.pe hb.pe, t_ite ht.pt ha.pt hb.pt, fun _ _ _ q => by cases q⟩
    · cases h
  | .tup l, B, X, W, c, e, h => by
    unfold ck at h
    split at h
    · exact .plain (e_tup (sound_es l c _ h).pa) (fun _ => rfl) (fun _ _ _ q => by cases q)
    · cases h
  | .lst m l, B, X, W, c, e, h => by
    unfold ck at h
    split at h
    · exact .plain (e_lst (sound_es l c _ h).pa) (fun _ => rfl) (fun _ _ _ q => by cases q)
    · cases h
  | .sub a b, B, X, W, c, e, h => by
    unfold ck at h
    split at h
    · simp only [Bool.and_eq_true] at h
      exact .plain (e_sub h.1.1 (sound_e a c _ h.1.2).pe (sound_e b c _ h.2).pe) (fun _ => rfl) (fun _ _ _ q => by cases q)
    · cases h
  | .dct0, B, X, W, c, e, h => by
    unfold ck at h
    split at h
    · exact .plain e_dct0 (fun _ => rfl) (fun _ _ _ q => by cases q)
    · cases h
  | .kd kvs a, B, X, W, c, e, h => by
    unfold ck at h
    split at h
    · rename_i x px y pos
      simp only [Bool.and_eq_true, Bool.not_eq_true'] at h
      obtain ⟨⟨⟨⟨h1, h2⟩, h3⟩, h4⟩, h5⟩ := h
      have k : KdOk X.K X.w X.mg x kvs := by
        cases hl : B.kds.lookup x with
        | none => rw [hl] at h4; cases h4
        | some k =>
          rw [hl] at h4
          rw [beqKd_eq h4]
          exact c.gf.kd x k hl
      exact .plain (e_kd (gl_of h2) h3 h1 k (sound_e a c _ h5).pe) (fun _ => rfl) (fun _ _ _ q => by cases q)
    · cases h
  | .slc m a lo hi, B, X, W, c, e, h => by
    unfold ck at h
    split at h
    · rename_i y l hh p2 p
      simp only [Bool.and_eq_true] at h
      obtain ⟨⟨h1, h2⟩, h3⟩ := h
      have hl : PO X l (tO X.kw T F W lo) := by
        cases l with
        | none =>
          match lo, h2 with
          | .c .none, _ => exact o_none
        | some y =>
          simp only [Bool.and_eq_true, Bool.not_eq_true'] at h2
          exact o_some h2.1 (sound_e lo c _ h2.2).pe
      have hr : PO X hh (tO X.kw T F W hi) := by
        cases hh with
        | none =>
          match hi, h3 with
          | .c .none, _ => exact o_none
        | some y =>
          simp only [Bool.and_eq_true, Bool.not_eq_true'] at h3
          exact o_some h3.1 (sound_e hi c _ h3.2).pe
      exact .plain (e_slc (sound_e a c _ h1).pe hl hr) (fun _ => rfl) (fun _ _ _ q => by cases q)
    · cases h
  | .call f l dd, B, X, W, c, e, h => by
    unfold ck at h
    split at h
    · rename_i x p es kws q
      simp only [Bool.and_eq_true, Bool.not_eq_true', beq_iff_eq] at h
      obtain ⟨⟨⟨⟨⟨h1, h2⟩, h3⟩, h4⟩, h5⟩, h6⟩ := h
      have hs := sound_es l c _ h4
      obtain ⟨ad, fd, k1, k2, k3, k4, k5⟩ := c.gf.fn x f h3
      refine .plain ?_ (fun _ => rfl) (fun _ _ _ q => by cases q)
      cases kws with
      | nil =>
        simp only [Bool.and_eq_true, decide_eq_true_eq] at h6
        obtain ⟨⟨h7, h8⟩, h9⟩ := h6
        rw [beqL_eq h9]
        obtain ⟨dvs, ds, g1, g2, g3⟩ := k4 (l.length + (B.dfs f).length - (B.prs f).length) (by omega)
        simp only [List.map_nil, List.append_nil] at hs
        cases es with
        | nil =>
          cases hs
          exact e_call0 k3 c.room (gl_of h1) k1 k2 g1 g2 g3 (fun ds S => c.gf.len f ds S) c.tk h2
        | cons e0 es =>
          simp only [List.all_cons, Bool.and_eq_true] at h5
          exact e_call k3 c.room (gl_of h1) k1 k2 g1 g2 g3 (fun ds S => c.gf.len f ds S) c.tk h2 h5.1 h5.2 hs.pa
      | cons kw kws =>
        simp only [Bool.and_eq_true, decide_eq_true_eq] at h6
        obtain ⟨⟨⟨⟨h7, h8⟩, h9⟩, h10⟩, h11⟩ := h6
        have e0 : dd = [] := beqL_eq h7
        subst e0
        obtain ⟨l1, l2, rfl, q1, q2⟩ := hs.split
        have hl1 := q1.len
        rw [← hl1] at h9 h10
        refine e_callK k3 c.room (gl_of h1) k1 k2 (k5 _ (by simpa using h10)) (fun ds S => c.gf.len f ds S) c.tk h2 h8 h9 ?_ h5 (fun e0 => ?_) q1.pa q2.pk
        · simp at h11; omega
        · subst e0; cases q1; rfl
    · cases h
  | .blt b m l, B, X, W, c, e, h => by
    unfold ck at h
    split at h
    · rename_i x p es q
      refine .plain ?_ (fun _ => rfl) (fun _ _ _ q => by cases q)
      split at h
      · rename_i t
        simp only [Bool.and_eq_true, beq_iff_eq, decide_eq_true_eq, Bool.not_eq_true'] at h
        obtain ⟨⟨⟨⟨rfl, h2⟩, h3⟩, rfl⟩, h4⟩ := h
        obtain ⟨g1, g2⟩ := bl_of h2
        split at h4
        · rename_i a y z q2
          simp only [Bool.and_eq_true, beq_iff_eq] at h4
          obtain ⟨⟨⟨rfl, h5⟩, h6⟩, h7⟩ := h4
          obtain ⟨g3, g4⟩ := bl_of h5
          have hs := sound_es [a] c _ h7
          cases hs with
          | cons s1 s2 s3 => exact e_isT h3 g1 (c.gf.bl _ g2) g3 (c.gf.bl _ g4) s1 s2.pe
        · cases h4
      · simp only [Bool.and_eq_true, beq_iff_eq] at h
        obtain ⟨⟨rfl, h2⟩, h3⟩ := h
        obtain ⟨g1, g2⟩ := bl_of h2
        split at h3
        · simp only [Bool.and_eq_true, beq_iff_eq] at h3
          obtain ⟨⟨rfl, h5⟩, h6⟩ := h3
          obtain ⟨g3, g4⟩ := bl_of h5
          have hs := sound_es l c _ h6
          cases hs with
          | cons s1 s2 s3 =>
            cases s3
            exact e_sortset c.calm g1 (c.gf.bl _ g2) g3 (c.gf.bl _ g4) s1 s2.pe
        · cases h3
      · simp only [Bool.and_eq_true, beq_iff_eq] at h
        obtain ⟨⟨rfl, h2⟩, h3⟩ := h
        obtain ⟨g1, g2⟩ := bl_of h2
        split at h3
        · simp only [Bool.and_eq_true, beq_iff_eq] at h3
          obtain ⟨⟨rfl, h5⟩, h6⟩ := h3
          obtain ⟨g3, g4⟩ := bl_of h5
          have hs := sound_es l c _ h6
          cases hs with
          | cons s1 s2 s3 =>
            cases s3
            exact e_lrng1 c.calm g1 (c.gf.bl _ g2) g3 (c.gf.bl _ g4) s1 s2.pe
        · cases h3
      · simp only [Bool.and_eq_true, beq_iff_eq] at h
        obtain ⟨⟨rfl, h2⟩, h3⟩ := h
        obtain ⟨g1, g2⟩ := bl_of h2
        split at h3
        · simp only [Bool.and_eq_true, beq_iff_eq] at h3
          obtain ⟨⟨rfl, h5⟩, h6⟩ := h3
          obtain ⟨g3, g4⟩ := bl_of h5
          have hs := sound_es l c _ h6
          cases hs with
          | cons s1 s2 s3 =>
            cases s3 with
            | cons s4 s5 s6 =>
              cases s6
              exact e_lrng2 c.calm g1 (c.gf.bl _ g2) g3 (c.gf.bl _ g4) s1 s4 s2.pe s5.pe
        · cases h3
      · simp only [Bool.and_eq_true, beq_iff_eq] at h
        obtain ⟨⟨h1, h2⟩, h3⟩ := h
        have hs := sound_es l c _ h3
        unfold bltOk at h1
        split at h1
        · rename_i nm cl hb
          simp only [Bool.and_eq_true, beq_iff_eq] at h1
          obtain ⟨rfl, h4⟩ := h1
          obtain ⟨g1, g2⟩ := bl_of h4
          cases es with
          | nil => simp at h2; omega
          | cons e0 es =>
            have h5 := hs.star
            simp only [List.all_cons, Bool.and_eq_true] at h5
            exact e_blt c.hu c.calm hb g1 (c.gf.bl _ g2) h5.1 h5.2 hs.pa
        · cases h1
    · cases h
  | .mth k o l, B, X, W, c, e, h => by
    unfold ck at h
    split at h
    · rename_i y mm ap es p
      simp only [Bool.and_eq_true] at h
      obtain ⟨⟨⟨⟨h1, h2⟩, h3⟩, h4⟩, h5⟩ := h
      have ho := (sound_e o c _ h4).pe
      have hs := sound_es l c _ h5
      refine .plain ?_ (fun _ => rfl) (fun _ _ _ q => by cases q)
      simp only [mthOk, Bool.and_eq_true, beq_iff_eq] at h1
      obtain ⟨rfl, h6⟩ := h1
      by_cases hk : k = .pop
      · subst hk
        rw [if_pos rfl] at h6
        cases es with
        | nil =>
          cases hs
          exact e_pop h2 h3 ho
        | cons e0 es => simp at h6
      · rw [if_neg hk] at h6
        cases es with
        | nil => simp at h6
        | cons e0 es =>
          have h8 := hs.star
          simp only [List.all_cons, Bool.and_eq_true] at h8
          refine e_mth c.hu hk h2 h3 h8.1 h8.2 ?_ ho hs.pa
          have e0 : es = [] := by simpa using h6
          subst e0
          decide
    · cases h
  | .comp m own t k its ifs elt, B, X, W, c, e, h => by
    unfold ck at h
    split at h
    · rename_i elt' tg iter ifs' ia scope p
      simp only [Bool.and_eq_true, decide_eq_true_eq] at h
      obtain ⟨⟨⟨⟨⟨⟨⟨h1, h2⟩, h3⟩, h4⟩, h5⟩, h6⟩, h7⟩, h8⟩ := h
      subst h1
      have hit := sound_it c h4 (sound_es its c _ h5)
      have hown : (ownOf X.N own).map (·.2) = own := by unfold ownOf; rw [List.map_map]; exact List.map_id _
      refine .plain ?_ (fun _ => rfl) (fun _ _ _ q => by cases q)
      have := e_lc (W := W) (m := m) (pos := p) (its := its) (ifs := ifs) (x := elt) (t := t) (T := T) (F := F) (k := k) c.calm c.nd hit.1 (blkOk_by h2) (fun i hi => by rw [hown]; simpa using List.all_eq_true.mp h3 i hi)
        (fun s H C cl fp => sound_t (X := X.blk s H scope (compEnvC scope cl C X.env) fp) c.calm c.nd (fun x hx => ?_) t tg h6)
        (fun s H C cl fp => (sound_es ifs (c.blk (scope := scope) (s := s) (H := H) (cenv := compEnvC scope cl C X.env) (fp := fp)) _ h7).pts)
        (fun s H C cl fp => (sound_e elt (c.blk (scope := scope) (s := s) (H := H) (cenv := compEnvC scope cl C X.env) (fp := fp)) _ h8).pe)
        hit.2
      · rwa [hown] at this
      · simp only [compOk, Bool.or_eq_true, Bool.and_eq_true, beq_iff_eq] at hx
        rcases hx with hx | ⟨hx1, hx2⟩
        · exact ⟨.inl hx, .inr hx⟩
        · exact ⟨.inr hx2, .inl (by simpa using hx1)⟩
    · cases h
  | .heard told sl yes l x, B, X, W, c, e, h => by
    unfold ck at h
    split at h
    · rename_i g p params body scope lpos pos
      simp only [Bool.and_eq_true, Bool.not_eq_true'] at h
      obtain ⟨⟨⟨⟨⟨⟨h1, h2⟩, h3⟩, h4⟩, h5⟩, h6⟩, h7⟩ := h
      split at h4
      · rename_i hh hl
        simp only [Bool.and_eq_true, decide_eq_true_eq] at h4
        obtain ⟨⟨⟨rfl, rfl⟩, rfl⟩, h4⟩ := h4
        rw [beqHS_eq h4]
        exact .plain (e_heard c h1 (gl_of h2) h3 hl h5 h6 fun A outer s H E f c' cc => (sound_e x cc body h7).pe) (fun _ => rfl) (fun _ _ _ q => by cases q)
      · cases h4
    · cases h
theorem sound_es : ∀ (l : List Ex) {B : Tabs} {X : Cx} {W : WX} (c : CxOk B T F n X W) (es : List Expr), cks B X.N X.env.scope l es = true → AllS T F X W l es
  | [], B, X, W, c, es, h => by
    cases es with
    | nil => exact .nil
    | cons e es => simp [cks] at h
  | x :: l, B, X, W, c, es, h => by
    cases es with
    | nil => simp [cks] at h
    | cons e es =>
      simp only [cks, Bool.and_eq_true] at h
      exact .cons h.1.1 (sound_e x c e h.1.2) (sound_es l c es h.2)
end
end
end DL

set_option linter.all false
set_option maxRecDepth 100000
/-! DL.Snd3: statements that are checked are sound. -/
namespace DL
open PySem L2 PySem.Spec PyProof.Rows
section
variable {B : Tabs} {T : Tb} {F : FS} {n : Nat} {X : Cx} {W : WX}
structure CxS (B : Tabs) (T : Tb) (F : FS) (n : Nat) (X : Cx) (W : WX) : Prop extends CxOk B T F n X W where
  pass : PassesOwn (model X.prog X.w) X.A X.env X.xe
  fnt : ∀ x, X.fn x = true
  kind : X.env.scope.kind = .function
  stk : X.stack = X.env :: X.outer
  frm : X.env.frame = some X.env.locals
theorem sw_name {e : Expr} {y : Str} {py : Pos} {line : Nat} (hk : X.env.scope.kind = .function) (h : notComp e = true ∨ (∃ a b c d, e = .ListComp a b c d)) : swapsWith e (some (.Name y py)) line X.env = pure (!notComp e && swB X.env.scope y py.line e) := by
  rcases h with h | ⟨a, b, c, d, rfl⟩
  · cases e <;> first | rfl | (simp [notComp] at h)
  · have hb : (X.env.blockKind == .function) = true := by
      unfold PySem.Env.blockKind
      rw [hk]
      rfl
    simp only [swapsWith, hb, notComp, swB]
    rfl
theorem nc_false {e t : Expr} {line : Nat} (h : notComp e = true) : swapsWith e (some t) line X.env = pure false := by
  cases e <;> first | rfl | (simp [notComp] at h)
theorem locB_of {x : Str} (hf : ∀ x, X.fn x = true) (h : locB X.env.scope x = true) : Loc X.env.scope x ∧ (X.fn x = true ∨ X.env.scope.names.lookup x = some .local) := by
  simp only [locB, Bool.or_eq_true, beq_iff_eq] at h
  exact ⟨h, .inl (hf x)⟩
theorem nms_of : ∀ {ts : List Tg} {is : List Nat}, nmSlots ts = some is → ts = is.map Tg.nm
  | [], is, h => by cases h; rfl
  | .nm i :: ts, is, h => by
    simp only [nmSlots, Option.map_eq_some_iff] at h
    obtain ⟨js, h1, rfl⟩ := h
    rw [nms_of h1]
    rfl
  | .tup l :: ts, is, h => by cases h
theorem s_augI {i : Nat} {x : Str} {e : Expr} {xe : Ex} {op : Operator} {pos pos' : Pos} (hN : X.N.Nodup) (hi : X.N[i]? = some x) (hx : Loc X.env.scope x) (hf : X.fn x = true ∨ X.env.scope.names.lookup x = some .local) (ho : op = .Add ∨ op = .Sub ∨ op = .Mult) (he : PE X e (tE X.kw T F W xe)) :
    PS X (.AugAssign (.Name x pos') op e pos) (tS X.kw T F W (.aug i op xe)) := by
  refine PS_imp (ps_aug hN hi hx he (ip_bin ho false) hf) fun Dn σ H ⟨μ, S, env, rs, re, h⟩ => ?_
  simp only [exec] at h
  cases hv : env[i]? with
  | none => rw [hv] at h; exact h.elim
  | some o =>
    cases o with
    | none => rw [hv] at h; exact h.elim
    | some d =>
      rw [hv] at h
      simp only at h
      obtain ⟨v, e1, r1⟩ := re.at_ i d hv
      refine ⟨v, e1, μ, S, env, rs, re, (PostS.out (R := RV X.kw) re h).mono fun y H1 ⟨μ1, d2, S1, rs1, e2, r2, h1⟩ => ?_⟩
      cases d with
      | int a =>
        cases d2 with
        | int b =>
          simp only [augV] at h1
          cases hb : binV op false (.int a) (.int b) S1 with
          | ok z S2 =>
            rw [hb] at h1
            cases (e2.mono _ _ r1)
            cases r2
            exact ⟨μ1, S1, a, b, z, S2, rs1, rfl, rfl, hb, fun w μ' H' rs' e' r' => h1 _ μ' H' rs' e' (((re.mono e2).mono e').set i r')⟩
          | exc c d S2 => exact absurd hb (nx_bin c d S2)
          | bad => rw [hb] at h1; exact h1.elim
        | _ => exact h1.elim
      | _ => exact h1.elim
theorem CxS.nox (c : CxS B T F n X W) : CxS B T F n X.nox W0 :=
  ⟨⟨c.nd, c.calm, c.room, fun u s' ⟨_, _, _, _, _, _, _, _, _, _, _, _, _, _, _, _, h⟩ => h, c.gf, fun z => ⟨(c.lm z).1, (c.lm z).2⟩⟩, PassesOwn.never, c.fnt, c.kind, c.stk, c.frm⟩
theorem s_try0 {body : List Stmt} {h₀ : ExceptHandler} {hs : List ExceptHandler} {pos : Pos} {b : List Sm} (h : PSs X.nox body (tSs X.kw T F W0 b)) : PS X (.Try body (h₀ :: hs) [] [] pos) (tS X.kw T F W (.try0 b)) := by
  refine PS_imp (ps_try_thru0 h) fun D σ H ⟨μ, S, env, rs, re, h⟩ => ⟨μ, S, env, rs, re, ?_⟩
  have h : PostS X.kw T μ H D W (execs F b env S).noexc := h
  cases ho : execs F b env S with
  | exc c d env' S' => rw [ho] at h; exact h.elim
  | nx env' S' => rw [ho] at h; exact h
  | bk env' S' => rw [ho] at h; exact h
  | ct env' S' => rw [ho] at h; exact h
  | rt d S' => rw [ho] at h; exact h
  | bad => rw [ho] at h; exact h
theorem pe_ckC {Y : Cx} {W' : WX} (gf : GF B T F n Y.prog Y.w Y.K Y.mg Y.base) {d : D} {e : Expr} (h : ckC B Y.env.scope d e = true) : PE Y e (tE Y.kw T F W' (.c d)) := by
  cases e with
  | Constant k j p =>
    cases k with
    | int i =>
      have e : d = .int i := beqD_eq (by simpa [ckC] using h)
      subst e
      exact e_const (v := .int i) pe_int fun _ _ => .int _
    | bool i =>
      have e : d = .bool i := beqD_eq (by simpa [ckC] using h)
      subst e
      exact e_const (v := .bl i) pe_bl fun _ _ => .bl _
    | none =>
      have e : d = .none := beqD_eq (by simpa [ckC] using h)
      subst e
      exact e_const (v := .non) pe_non fun _ _ => .non
    | str i =>
      have e : d = .str i := beqD_eq (by simpa [ckC] using h)
      subst e
      exact e_const (v := .str i) pe_str fun _ _ => .str _
    | _ => simp [ckC] at h
  | Name x p =>
    simp only [ckC, Bool.and_eq_true, Bool.not_eq_true'] at h
    obtain ⟨⟨h1, h2⟩, h3⟩ := h
    split at h3
    · rename_i d' hl
      rw [beqD_eq h3]
      obtain ⟨v, u, k1, k2, k3⟩ := gf.cst x d' hl
      exact e_const (pe_glob (gl_of h1) k1 k2 h2) k3
    · cases h3
  | _ => simp [ckC] at h
theorem s_tryC (c : CxS B T F n X W) {x : Str} {np hp tp rp : Pos} {body : List Stmt} {e : Expr} {b : List Sm} {yes no : List Nat} {d : D} (h1 : glB X.env.scope x = true) (h2 : dbg x = false) (hx : x ∈ B.exn)
    (h4 : ∀ c ∈ yes, ((c, x), true) ∈ B.exm) (h5 : ∀ c ∈ no, ((c, x), false) ∈ B.exm)
    (hb : ∀ (W' : WX) (pn : List (Addr × Obj)) (xe : Value → Shared → Prop), Takes (X.tr pn xe) W' → PassesOwn (model X.prog X.w) X.A X.env xe → PSs (X.tr pn xe) body (tSs X.kw T F W' b))
    (hs : ∀ (a : Addr) (oe : Obj) (pn : List (Addr × Obj)), PE (X.suite a ((a, oe) :: pn)) e (tE X.kw T F W0 (.c d))) :
    PS X (.Try body [.ExceptHandler (some (.Name x np)) none [.Return (some e) rp] hp] [] [] tp) (tS X.kw T F W (.tryC b yes no (.rc d))) := by
  obtain ⟨cv, hcv⟩ := c.gf.en x hx
  have nm : Names X x cv := ⟨gl_of h1, h2, .inl hcv⟩
  refine PS_imp (ps_try_only (tb := fun W' => tSs X.kw T F W' b) (ts := fun _ _ _ => tSs X.kw T F W0 [.ret (.c d)]) c.stk c.frm nm c.tk hb (fun a oe cls od pn _ _ => s_cons (X := X.suite a ((a, oe) :: pn)) (s_ret (hs a oe pn)) s_nil)) fun Dn σ H ⟨μ, S, env, rs, re, h⟩ => ⟨μ, S, env, rs, re, ?_⟩
  have h : PostS X.kw T μ H Dn W (match execs F b env S with | .exc k d' env' S' => if yes.contains k then execH F (.rc d) env' S' else if no.contains k then .exc k d' env' S' else .bad | o => o) := h
  cases ho : execs F b env S with
  | nx env' S' => rw [ho] at h; exact h
  | bk env' S' => rw [ho] at h; exact h
  | ct env' S' => rw [ho] at h; exact h
  | rt d' S' => rw [ho] at h; exact h
  | bad => rw [ho] at h; exact h
  | exc k d' env' S' =>
    rw [ho] at h
    intro cls od σ' μ' H' ea rs' e' re'
    simp only at h
    split at h
    · rename_i hy
      refine ⟨true, ?_, fun _ a ha => ⟨μ', S', env', rs', re', ?_⟩, fun z => nomatch z⟩
      · rw [ea.1]
        exact c.gf.em k x true (h4 k (by simpa using hy)) cv hcv
      · exact PostS.ext (W := W0) (show PostS X.kw T μ H Dn W0 (.rt d S') from h) e'
    · split at h
      · rename_i hn
        refine ⟨false, ?_, (fun z => nomatch z), fun _ => h cls od σ' μ' H' ea rs' e' re'⟩
        rw [ea.1]
        exact c.gf.em k x false (h5 k (by simpa using hn)) cv hcv
      · exact h.elim
theorem RelE.setNone {K : KW} {μ : Mu} {H : Hp} {env : Env} {σ : L2.St} {v : Option V} (r : RelE K μ H env σ) (i : Nat) : RelE K μ H (env.set i none) (σ.set i v) := by
  refine ⟨by simp [r.len], fun j d e => ?_⟩
  by_cases hj : i = j
  · subst hj
    by_cases hi : i < env.length
    · rw [List.getElem?_set_self hi] at e; cases e
    · rw [List.getElem?_eq_none (by simpa using hi)] at e; cases e
  · rw [List.getElem?_set_ne hj] at e
    obtain ⟨w, h1, h2⟩ := r.at_ j d e
    exact ⟨w, by rw [List.getElem?_set_ne hj]; exact h1, h2⟩
theorem s_tryA (c : CxS B T F n X W) {x f : Str} {np hp tp : Pos} {body ss : List Stmt} {s0 : Stmt} {b : List Sm} {yes no : List Nat} {i : Nat} {l : List HS} (h1 : glB X.env.scope x = true) (h2 : dbg x = false) (hx : x ∈ B.exn)
    (h4 : ∀ c ∈ yes, ((c, x), true) ∈ B.exm) (h5 : ∀ c ∈ no, ((c, x), false) ∈ B.exm) (hN : X.N[i]? = some f) (hv : X.env.scope.names.lookup f = some .local) (hd : (f == ("__debug__" : Str)) = false) (hcd : (f == ("__classdict__" : Str)) = false)
    (hb : ∀ (W' : WX) (pn : List (Addr × Obj)) (xe : Value → Shared → Prop), Takes (X.tr pn xe) W' → PassesOwn (model X.prog X.w) X.A X.env xe → PSs (X.tr pn xe) body (tSs X.kw T F W' b))
    (hs : ckHS B X.N X.env.scope i f yes l (s0 :: ss) = true) :
    PS X (.Try body [.ExceptHandler (some (.Name x np)) (some f) (s0 :: ss) hp] [] [] tp) (tS X.kw T F W (.tryA b yes no i l)) := by
  obtain ⟨cv, hcv⟩ := c.gf.en x hx
  have nm : Names X x cv := ⟨gl_of h1, h2, .inl hcv⟩
  refine PS_imp (ps_try_as (i := i) (tb := fun W' => tSs X.kw T F (fun cls d σ H => σ.length = X.N.length → W' cls d σ H) b) (ts := fun a cls d D σ H => ∃ k ∈ yes, ∃ dx, cls = .ref (T.ca k) ∧ d = some dx ∧ tHS X.kw T k a dx i l D σ H) c.stk c.frm c.nd hN hv nm c.tk (fun W' pn xe tk ps => hb _ pn xe (takes_len tk) ps) (fun a oe cls d pn hz hf => ?_)) fun Dn σ H ⟨μ, S, env, rs, re, h⟩ => ⟨μ, S, env, rs, re, ?_⟩
  · exact ⟨fun pins s' σ H' D I ⟨k, hk, dx, e1, e2, h'⟩ => by
      subst e1 e2
      exact (sound_HS (a := a) (pn := pn) c.gf hk hz hf c.nd hN hv hd hcd l _ hs).run pins s' σ H' D I h'⟩
  have h : PostS X.kw T μ H Dn W (match execs F b env S with | .exc k d env' S' => if yes.contains k then (match hrun k d l (env'.set i none) with | some (.rt z) => .rt z S' | some (.nx env2) => .nx (env2.set i none) S' | none => .bad) else if no.contains k then .exc k d env' S' else .bad | o => o) := h
  cases ho : execs F b env S with
  | nx env' S' => rw [ho] at h; exact h
  | bk env' S' => rw [ho] at h; exact h
  | ct env' S' => rw [ho] at h; exact h
  | rt d' S' => rw [ho] at h; exact h
  | bad => rw [ho] at h; exact h
  | exc k d' env' S' =>
    rw [ho] at h
    intro cls od σ' μ' H' ea rs' e' re' hlen
    simp only at h
    split at h
    · rename_i hy
      refine ⟨true, ?_, fun _ a ha => ?_, fun z => nomatch z⟩
      · rw [ea.1]
        exact c.gf.em k x true (h4 k (by simpa using hy)) cv hcv
      · obtain ⟨ec, dx, v, ed, q1, q2⟩ := ea
        have hi : i < σ'.length := by
          rw [hlen]
          exact (List.getElem?_eq_some_iff.mp hN).1
        refine ⟨k, by simpa using hy, dx, ec, ed, μ', S', env'.set i none, d', ⟨rs', re'.setNone i, ⟨v, q1, q2⟩, by rw [List.getElem?_set_self hi]⟩, ?_⟩
        split at h
        · rename_i z hz
          exact ⟨_, hz, fun w H'' g r => h w μ' H'' g.rs (e'.trans g.ext) r⟩
        · rename_i env2 hz
          exact ⟨_, hz, fun σ2 H'' g r => h _ μ' H'' g.rs (e'.trans g.ext) (r.setNone i)⟩
        · exact h.elim
    · split at h
      · rename_i hn
        refine ⟨false, ?_, (fun z => nomatch z), fun _ => h cls od σ' μ' H' ea rs' e' re'⟩
        rw [ea.1]
        exact c.gf.em k x false (h5 k (by simpa using hn)) cv hcv
      · exact h.elim
theorem s_raise (c : CxS B T F n X W) {x : Str} {k : Nat} {p pos pos2 : Pos} {e : Expr} {a : Ex} (h1 : glB X.env.scope x = true) (h2 : dbg x = false) (h3 : B.exs.lookup x = some k) (h4 : notStar e = true) (he : PE X e (tE X.kw T F W a)) :
    PS X (.Raise (some (.Call (.Name x p) [e] [] pos)) none pos2) (tS X.kw T F W (.raise k a)) := by
  obtain ⟨hm, fI, cda, cc, fd, pn, I, iC, tI, hb⟩ := c.gf.ex x k h3
  have ha : PA X [e] (tEs X.kw T F W [a]) := es_cons h4 he es_nil
  have mk := pmk_oex (pos := pos) (p := p) (dvs := []) (ds := []) I.oex iC tI (init_fn (CX := CX X.prog X.w) (w := X.w) (base := X.base) (k := 0) I) (c.room.mono (by omega)) hb .nil (fun _ _ _ _ _ _ _ ⟨_, _, _, _, _, _, _, _, _, _, _, _, z⟩ => z.elim) (gl_of h1) hm ha h2 (by cases e <;> first | rfl | (simp [notStar] at h4))
  refine PS_imp (ps_raise c.calm c.tk mk) fun Dn σ H ⟨μ, S, env, rs, re, h⟩ => ?_
  have h : PostS X.kw T μ H Dn W (Res.out env (ev F a env S) fun d S1 => .exc k d env S1) := h
  refine ⟨μ, S, env, rs, re, ?_⟩
  have e0 : evs F [a] env S = (ev F a env S).bind fun d S1 => .ok [d] S1 := by
    simp only [evs]
    cases ev F a env S <;> rfl
  rw [e0]
  cases ho : ev F a env S with
  | bad => rw [ho] at h; exact h.elim
  | exc k' d S1 =>
    rw [ho] at h
    exact fun cls od μ' H' ea rs' e' => h cls od σ μ' H' ea rs' e' (re.mono e')
  | ok d S1 =>
    rw [ho] at h
    intro z μ' H' rs' e' r'
    cases r' with
    | @cons v _ vs _ r1 r2 =>
    cases r2
    refine ⟨by simp, fun a' ha' => ⟨a', v, rfl, upd_same, fun dx hdx hne => ⟨rfl, dx, [(T.cf k, v)], upd_same, ?_, ?_, ?_⟩⟩⟩
    · rw [upd_ne hne, upd_same]
    · rw [← hdx, upd_ne hne]
    · have hd1 : H' dx = none := by rw [← hdx, upd_ne hne]
      have eq : upd (del (upd (upd (upd H' a' (exo a' (T.ca k) none)) dx (exd dx [(T.cf k, v)])) a' (exo a' (T.ca k) (some dx))) a') dx (.xd [(T.cf k, v)]) = upd H' dx (.xd [(T.cf k, v)]) := by
        funext b
        by_cases hb : b = dx
        · rw [hb, upd_same, upd_same]
        · rw [upd_ne hb, upd_ne hb]
          by_cases hb2 : b = a'
          · rw [hb2, del_same, ha']
          · rw [del_ne hb2, upd_ne hb2, upd_ne hb, upd_ne hb2]
      show W _ _ σ _
      rw [eq]
      obtain ⟨rs2, e2⟩ := rs'.new (o := .xd [(T.cf k, v)]) hd1
      exact h (.ref (T.ca k)) (some dx) σ μ' _ ⟨rfl, dx, v, rfl, upd_same, e2.mono _ _ r1⟩ rs2 (e'.trans e2) ((re.mono e').mono e2)
mutual
theorem sound_s : ∀ (st : Sm) {X : Cx} {W : WX} (c : CxS B T F n X W) (s : Stmt), ckS B X.N X.env.scope st s = true → PS X s (tS X.kw T F W st)
  | .asg t x, X, W, c, s, h => by
    unfold ckS at h
    split at h
    · rename_i y py e sp
      simp only [Bool.and_eq_true] at h
      obtain ⟨⟨h1, h2⟩, h3⟩ := h
      have he := (sound_e x c.toCxOk e h1).pe
      cases t with
      | tup ts => simp [ckT] at h2
      | nm j =>
        simp only [ckT, Bool.and_eq_true, beq_iff_eq] at h2
        obtain ⟨l1, l2⟩ := locB_of c.fnt h2.2
        by_cases hc : notComp e = true
        · exact s_set c.nd h2.1 l1 he (nc_false hc) l2
        · have hc : notComp e = false := by simpa using hc
          rw [hc] at h3
          by_cases hsw : swB X.env.scope y py.line e = true
          · rw [hsw] at h3
            simp only [Bool.or_false, Bool.not_true, Bool.false_or] at h3
            have hyl : X.env.scope.names.lookup y = some .local := by
              cases e <;> first | (simp [notComp] at hc; done) | skip
              · simp only [swB, Bool.and_eq_true, beq_iff_eq] at hsw
                exact hsw.1.1
              · cases h3
              · cases h3
            have hlc : ∃ a b c d, e = .ListComp a b c d := by
              cases e <;> first | (simp [notComp] at hc; done) | skip
              · exact ⟨_, _, _, _, rfl⟩
              · cases h3
              · cases h3
            have hswT : swapsWith e (some (.Name y py)) sp.line X.env = pure true := by
              rw [sw_name c.kind (.inr hlc), hc, hsw]; rfl
            obtain ⟨a0, b0, c0, d0, rfl⟩ := hlc
            cases x with
            | comp m own t k its ifs elt =>
              unfold ck at h1
              split at h1
              · rename_i elt' tg iter ifs' ia scope p hEq
                simp only [Expr.ListComp.injEq] at hEq
                obtain ⟨rfl, rfl, rfl, rfl⟩ := hEq
                simp only [Bool.and_eq_true, decide_eq_true_eq] at h1
                obtain ⟨⟨⟨⟨⟨⟨⟨h1, h2'⟩, h3'⟩, h4⟩, h5⟩, h6⟩, h7⟩, h8⟩ := h1
                subst h1
                have cc := c.toCxOk
                have hit := sound_it cc h4 (sound_es its cc _ h5)
                have hown : (ownOf X.N own).map (·.2) = own := by unfold ownOf; rw [List.map_map]; exact List.map_id _
                have := s_setLc (W := W) (m := m) (pos := d0) (its := its) (ifs := ifs) (x := elt) (t := t) (T := T) (F := F) (k := k) c.calm c.nd h2.1 hyl hswT hit.1 (blkOk_by h2') (fun i hi => by rw [hown]; simpa using List.all_eq_true.mp h3' i hi)
                  (fun s H C cl fp => sound_t (X := X.blk s H c0 (compEnvC c0 cl C X.env) fp) c.calm c.nd (fun x hx => ?_) t tg h6)
                  (fun s H C cl fp => (sound_es ifs (cc.blk (scope := c0) (s := s) (H := H) (cenv := compEnvC c0 cl C X.env) (fp := fp)) _ h7).pts)
                  (fun s H C cl fp => (sound_e elt (cc.blk (scope := c0) (s := s) (H := H) (cenv := compEnvC c0 cl C X.env) (fp := fp)) _ h8).pe)
                  hit.2
                · rwa [hown] at this
                · simp only [compOk, Bool.or_eq_true, Bool.and_eq_true, beq_iff_eq] at hx
                  rcases hx with hx | ⟨hx1, hx2⟩
                  · exact ⟨.inl hx, .inr hx⟩
                  · exact ⟨.inr hx2, .inl (by simpa using hx1)⟩
              · cases h1
            | c d => exact absurd h1 (by simp [ck, ckC])
            | blt b m l => exact absurd h1 (by simp [ck])
            | _ => exact absurd h1 (by simp [ck])
          · have hsw : swB X.env.scope y py.line e = false := by simpa using hsw
            have hlc : ∃ a b c d, e = .ListComp a b c d := by
              cases e <;> first | (simp [notComp] at hc; done) | skip
              · exact ⟨_, _, _, _, rfl⟩
              · simp [swB] at hsw
              · simp [swB] at hsw
            exact s_set c.nd h2.1 l1 he (by rw [sw_name c.kind (.inr hlc), hsw, Bool.and_false]) l2
    · rename_i es k p e sp
      simp only [Bool.and_eq_true] at h
      obtain ⟨⟨⟨h1, h2⟩, h3⟩, h4⟩ := h
      have he := (sound_e x c.toCxOk e h2).pe
      have hg := sound_t c.calm c.nd (fun x hx => locB_of c.fnt hx) t _ h3
      have hss : swapsWithSole [.Tuple es k p] e sp.line X.env = pure false := nc_false (X := X) (t := .Tuple es k p) (line := sp.line) h1
      by_cases hT : isTupE e = true
      · cases e with
        | Tuple vs k2 p2 =>
          cases t with
          | nm j => simp [ckT] at h3
          | tup ts =>
            simp only [swOk] at h4
            split at h4
            · cases h4
            · rename_i hsw
              exact s_asg rfl hss (swap_of c.kind hsw) he hg
            · rename_i nms hsw
              split at h4
              · rename_i is his
                simp only [Bool.and_eq_true, decide_eq_true_eq, List.all_eq_true, beq_iff_eq] at h4
                obtain ⟨⟨q1, q2⟩, q3⟩ := h4
                rw [nms_of his]
                exact s_swap c.calm c.nd q3 q1 q2 hss (swap_of c.kind hsw) he
              · cases h4
        | _ => simp [isTupE] at hT
      · refine s_asg rfl hss ?_ he hg
        cases e <;> first | rfl | (simp [isTupE] at hT)
    · cases h
  | .setS o i x, X, W, c, s, h => by
    unfold ckS at h
    split at h
    · rename_i y z p2 e sp
      simp only [Bool.and_eq_true] at h
      obtain ⟨⟨⟨⟨h1, h2⟩, h3⟩, h4⟩, h5⟩ := h
      have hss : swapsWithSole [.Subscript y z p2] e sp.line X.env = pure false := nc_false (X := X) (t := .Subscript y z p2) (line := sp.line) h1
      exact s_setS (tg := .Name (Str.ofString "x") ⟨0, 0, 0, 0⟩) c.hu (.inr trivial) h2 hss (by rfl) (sound_e x c.toCxOk _ h5).pe (sound_e o c.toCxOk _ h3).pe (sound_e i c.toCxOk _ h4).pe
    · cases h
  | .aug i o x, X, W, c, s, h => by
    unfold ckS at h
    split at h
    · simp only [Bool.and_eq_true, beq_iff_eq, decide_eq_true_eq, Bool.or_eq_true] at h
      obtain ⟨⟨⟨⟨h1, h2⟩, rfl⟩, h4⟩, h5⟩ := h
      obtain ⟨l1, l2⟩ := locB_of c.fnt h2
      exact s_augI c.nd h1 l1 l2 (by rcases h4 with (h | h) | h; exact .inl h; exact .inr (.inl h); exact .inr (.inr h)) (sound_e x c.toCxOk _ h5).pe
    · cases h
  | .ifs t a b, X, W, c, s, h => by
    unfold ckS at h
    split at h
    · simp only [Bool.and_eq_true] at h
      exact s_ifs (sound_e t c.toCxOk _ h.1.1).pt (sound_ss a c _ h.1.2) (sound_ss b c _ h.2)
    · cases h
  | .whl t a, X, W, c, s, h => by
    unfold ckS at h
    split at h
    · simp only [Bool.and_eq_true] at h
      exact s_whl c.pass (sound_e t c.toCxOk _ h.1).pt (sound_ss a c _ h.2)
    · cases h
  | .frl t k its a, X, W, c, s, h => by
    unfold ckS at h
    split at h
    · simp only [Bool.and_eq_true] at h
      obtain ⟨⟨⟨h1, h2⟩, h3⟩, h4⟩ := h
      obtain ⟨hi, hf⟩ := sound_it c.toCxOk h1 (sound_es its c.toCxOk _ h2)
      exact s_frl c.pass c.calm hi (sound_t c.calm c.nd (fun x hx => locB_of c.fnt hx) t _ h3) (sound_ss a c _ h4) hf
    · cases h
  | .ret x, X, W, c, s, h => by
    unfold ckS at h
    split at h
    · exact s_ret (sound_e x c.toCxOk _ h).pe
    · split at h
      · exact s_retN
      · cases h
    · cases h
  | .exp x, X, W, c, s, h => by
    unfold ckS at h
    split at h
    · simp only [Bool.and_eq_true] at h
      refine s_exp ?_ (sound_e x c.toCxOk _ h.2).pe
      rename_i e p
      have h1 := h.1
      cases e <;> first | rfl | (simp [notComp] at h1)
    · cases h
  | .pass, X, W, c, s, h => by
    unfold ckS at h
    split at h
    · exact s_pass
    · cases h
  | .brk, X, W, c, s, h => by
    unfold ckS at h
    split at h
    · exact s_brk
    · cases h
  | .cont, X, W, c, s, h => by
    unfold ckS at h
    split at h
    · exact s_cont
    · cases h
  | .try0 b, X, W, c, s, h => by
    unfold ckS at h
    split at h
    · exact s_try0 (sound_ss b c.nox _ h)
    · cases h
  | .tryC b yes no hd, X, W, c, s, h => by
    unfold ckS at h
    split at h
    · rename_i body x np suite hp tp
      simp only [Bool.and_eq_true] at h
      obtain ⟨⟨⟨⟨⟨⟨h1, h2⟩, h3⟩, h7⟩, h4⟩, h5⟩, h6⟩ := h
      cases hd with
      | rr k e => simp at h6
      | rc d =>
        split at h6
        · rename_i e rp heq
          cases heq
          exact s_tryC c h1 (by simpa using h2) (by simpa using h7) (fun k hk => by simpa using List.all_eq_true.mp h4 k hk) (fun k hk => by simpa using List.all_eq_true.mp h5 k hk) (fun W' pn xe tk ps => sound_ss b (X := X.tr pn xe) ⟨⟨c.nd, c.calm, c.room, tk, c.gf, fun z => ⟨(c.lm z).1, (c.lm z).2⟩⟩, ps, c.fnt, c.kind, c.stk, c.frm⟩ body h3) (fun a oe pn => pe_ckC (Y := X.suite a ((a, oe) :: pn)) c.gf h6)
        · cases h6
    · cases h
  | .tryA b yes no i l, X, W, c, s, h => by
    unfold ckS at h
    split at h
    · rename_i body x np f s0 ss hp tp
      simp only [Bool.and_eq_true, beq_iff_eq, Bool.not_eq_true'] at h
      obtain ⟨⟨⟨⟨⟨⟨⟨⟨⟨⟨h1, h2⟩, h3⟩, h7⟩, h4⟩, h5⟩, h8⟩, h9⟩, h10⟩, h11⟩, h12⟩ := h
      exact s_tryA c h1 h2 (by simpa using h7) (fun k hk => by simpa using List.all_eq_true.mp h4 k hk) (fun k hk => by simpa using List.all_eq_true.mp h5 k hk) h8 h9 h10 h11 (fun W' pn xe tk ps => sound_ss b (X := X.tr pn xe) ⟨⟨c.nd, c.calm, c.room, tk, c.gf, fun z => ⟨(c.lm z).1, (c.lm z).2⟩⟩, ps, c.fnt, c.kind, c.stk, c.frm⟩ body h3) h12
    · cases h
  | .raise k e, X, W, c, s, h => by
    unfold ckS at h
    split at h
    · simp only [Bool.and_eq_true, Bool.not_eq_true', beq_iff_eq] at h
      obtain ⟨⟨⟨⟨h1, h2⟩, h3⟩, h4⟩, h5⟩ := h
      exact s_raise c h1 h2 h3 h4 (sound_e e c.toCxOk _ h5).pe
    · cases h
  | .never, X, W, c, s, h => s_never
theorem sound_ss : ∀ (l : List Sm) {X : Cx} {W : WX} (c : CxS B T F n X W) (ss : List Stmt), ckSs B X.N X.env.scope l ss = true → PSs X ss (tSs X.kw T F W l)
  | [], X, W, c, ss, h => by
    cases ss with
    | nil => exact s_nil
    | cons s ss => simp [ckSs] at h
  | x :: l, X, W, c, ss, h => by
    cases ss with
    | nil => simp [ckSs] at h
    | cons s ss =>
      simp only [ckSs, Bool.and_eq_true] at h
      exact s_cons (sound_s x c s h.1) (sound_ss l c ss h.2)
end
end
end DL

set_option linter.all false
set_option maxRecDepth 100000
/-! DL.Fun: defs, whole. -/
namespace DL
open PySem L2 PySem.Spec PyProof.Rows
section
variable {K : KW} {T : Tb} {μ μ' : Mu} {H H' : Hp}
/-- only the places up to n -/
def Mu.cut (n : Nat) (μ : Mu) : Mu := ⟨μ.pl.take n, μ.rv⟩
theorem Free.cut {a : Addr} {n : Nat} (h : Free μ a) : Free (μ.cut n) a := ⟨fun m => h.1 (List.mem_of_mem_take m), h.2⟩
mutual
theorem below_keep {n : Nat} : ∀ (d : D) (v : V), below n d = true → Rep K μ H v d → Rep K (μ.cut n) H v d
  | .none, _, _, h => by cases h; exact .non
  | .bool _, _, _, h => by cases h; exact .bl _
  | .int _, _, _, h => by cases h; exact .int _
  | .str _, _, _, h => by cases h; exact .str _
  | .list ds, _, b, h => by
    cases h with
    | lst h1 h2 h3 => exact .lst h1.cut h2 (belowL_keep ds _ (by simpa [below] using b) h3)
  | .tuple ds, _, b, h => by
    cases h with
    | tup h1 h2 => exact .tup h1 (belowL_keep ds _ (by simpa [below] using b) h2)
  | .dict kvs, _, b, h => by
    cases h with
    | rf h1 =>
      rename_i a m
      refine .rf ?_
      have hb : m < n := by simpa [below] using b
      show (μ.pl.take n)[m]? = _
      rw [List.getElem?_take, if_pos hb]
      exact h1
    | ro h1 => exact .ro (by rcases h1 with h1 | ⟨h0, h1⟩ | h1; exact .inl h1; exact .inr (.inl ⟨h0.cut, h1⟩); exact .inr (.inr h1))
theorem belowL_keep {n : Nat} : ∀ (ds : List D) (vs : List V), belowL n ds = true → RepL K μ H vs ds → RepL K (μ.cut n) H vs ds
  | [], _, _, h => by cases h; exact .nil
  | d :: ds, _, b, h => by
    simp only [belowL, Bool.and_eq_true] at b
    cases h with
    | cons h1 h2 => exact .cons (below_keep d _ b.1 h1) (belowL_keep ds _ b.2 h2)
end
theorem intsOf_map : ∀ (ns : List Int), intsOf (ns.map .int) = some ns
  | [] => rfl
  | i :: ns => by simp [intsOf, intsOf_map ns]
mutual
/-- what stands names no place that isn't there -/
theorem rep_below : ∀ (d : D) (v : V), Rep K μ H v d → below μ.pl.length d = true
  | .none, _, h => rfl
  | .bool _, _, h => rfl
  | .int _, _, h => rfl
  | .str _, _, h => rfl
  | .list ds, _, h => by
    cases h with
    | lst h1 h2 h3 => simpa [below] using repL_below ds _ h3
  | .tuple ds, _, h => by
    cases h with
    | tup h1 h2 => simpa [below] using repL_below ds _ h2
  | .dict kvs, _, h => by
    cases h with
    | rf h1 =>
      have := (List.getElem?_eq_some_iff.mp h1).1
      simpa [below] using this
    | ro h1 => simp [below, intsOf_map]
theorem repL_below : ∀ (ds : List D) (vs : List V), RepL K μ H vs ds → belowL μ.pl.length ds = true
  | [], _, h => rfl
  | d :: ds, _, h => by
    cases h with
    | cons h1 h2 => simp [belowL, rep_below d _ h1, repL_below ds _ h2]
end
theorem drel_below : ∀ {kvs : List (D × D)} {xs : List (NestedKey × Addr × Value)}, DRel K μ H kvs xs → (kvs.all fun p => below μ.pl.length p.1 && below μ.pl.length p.2) = true
  | _, _, .nil => rfl
  | _, _, .cons h1 h2 h3 h4 h5 h6 => by
    simp [rep_below _ _ h3, rep_below _ _ h5]
    have := drel_below h6
    simpa using this
theorem below_drel {n : Nat} : ∀ {kvs : List (D × D)} {xs : List (NestedKey × Addr × Value)}, (kvs.all fun p => below n p.1 && below n p.2) = true → DRel K μ H kvs xs → DRel K (μ.cut n) H kvs xs
  | _, _, _, .nil => .nil
  | _, _, b, .cons h1 h2 h3 h4 h5 h6 => by
    simp only [List.all_cons, Bool.and_eq_true] at b
    exact .cons h1 h2 (below_keep _ _ b.1.1 h3) h4 (below_keep _ _ b.1.2 h5) (below_drel b.2 h6)
theorem keep_at : ∀ {S0 S : Store} {n i : Nat} {o : MO}, keepable S0 S n = true → i < S0.length → S[i]? = some o → ∃ a, S0[i]? = some a ∧ (beqO a o = true ∨ belowO n o = true)
  | [], S, n, i, o, h, hi, e => absurd hi (Nat.not_lt_zero _)
  | a :: S0, [], n, i, o, h, hi, e => by cases e
  | a :: S0, b :: S, n, 0, o, h, hi, e => by
    cases e
    simp only [keepable, Bool.and_eq_true, Bool.or_eq_true] at h
    exact ⟨a, rfl, h.1⟩
  | a :: S0, b :: S, n, i + 1, o, h, hi, e => by
    simp only [keepable, Bool.and_eq_true] at h
    obtain ⟨a', h1, h2⟩ := keep_at (i := i) h.2 (by simpa using hi) (by simpa using e)
    exact ⟨a', by simpa using h1, h2⟩
theorem keep_len : ∀ {S0 S : Store} {n : Nat}, keepable S0 S n = true → S0.length ≤ S.length
  | [], S, n, h => Nat.zero_le _
  | a :: S0, [], n, h => by cases h
  | a :: S0, b :: S, n, h => by
    simp only [keepable, Bool.and_eq_true] at h
    simpa using keep_len h.2
/-- the store goes back to the places that were there -/
theorem cut_rel {S0 S : Store} (rs0 : RelS K μ S0 H) (rs : RelS K μ' S H') (e : Ext K μ H μ' H') (k : keepable S0 S S0.length = true) : μ'.cut S0.length = ⟨μ.pl, μ.rv⟩ ∧ RelS K μ (S.take S0.length) H' := by
  obtain ⟨ν, hν⟩ := e.pre
  have hc : μ'.cut S0.length = ⟨μ.pl, μ.rv⟩ := by
    unfold Mu.cut
    rw [hν, ← rs0.len, List.take_left', e.rv]
    rfl
  refine ⟨hc, ?_⟩
  have hc' : μ = μ'.cut S0.length := by rw [hc]
  refine ⟨?_, rs0.nd, fun n o ho => ?_, fun a ha => ?_, rs.tab⟩
  · rw [rs0.len, List.length_take, Nat.min_eq_left (keep_len k)]
  · rw [List.getElem?_take] at ho
    split at ho
    · rename_i hn
      obtain ⟨a, h1, h2⟩ := rs.at_ n o ho
      have hn' : n < μ.pl.length := by rw [rs0.len]; exact hn
      refine ⟨a, ?_, ?_⟩
      · rw [hν, List.getElem?_append_left hn'] at h1
        exact h1
      · obtain ⟨o0, k1, k2⟩ := keep_at k hn ho
        cases o with
        | lst ds =>
          obtain ⟨xs, q1, q2⟩ := h2
          refine ⟨xs, q1, ?_⟩
          have hb : belowL S0.length ds = true := by
            rcases k2 with k2 | k2
            · cases o0 with
              | lst ds0 =>
                have := beqL_eq (by simpa [beqO] using k2 : beqL ds0 ds = true)
                subst this
                obtain ⟨a2, q3, xs2, q4, q5⟩ := rs0.at_ n _ k1
                rw [← rs0.len]
                exact repL_below _ _ q5
              | _ => simp [beqO] at k2
            · simpa [belowO] using k2
          have := belowL_keep _ _ hb q2
          rwa [← hc'] at this
        | dct kvs =>
          obtain ⟨xs, q1, q2⟩ := h2
          refine ⟨xs, q1, ?_⟩
          have hb : (kvs.all fun p => below S0.length p.1 && below S0.length p.2) = true := by
            rcases k2 with k2 | k2
            · cases o0 with
              | dct kvs0 =>
                have := beqK_eq (by simpa [beqO] using k2 : beqK kvs0 kvs = true)
                subst this
                obtain ⟨a2, q3, xs2, q4, q5⟩ := rs0.at_ n _ k1
                rw [← rs0.len]
                exact drel_below q5
              | _ => simp [beqO] at k2
            · simpa [belowO] using k2
          have := below_drel hb q2
          rwa [← hc'] at this
        | ins c fs =>
          obtain ⟨dx, vs, q1, q2, q3, q4⟩ := h2
          have hb : belowL S0.length (fs.map (·.2)) = true := by
            rcases k2 with k2 | k2
            · cases o0 <;> simp [beqO] at k2
            · simpa [belowO] using k2
          have := belowL_keep _ _ hb q4
          exact ⟨dx, vs, q1, q2, q3, by rwa [← hc'] at this⟩
        | dki kvs =>
          obtain ⟨xs, q1, q2, q3⟩ := h2
          have hb : belowL S0.length (kvs.map (·.2)) = true := by
            rcases k2 with k2 | k2
            · cases o0 <;> simp [beqO] at k2
            · simpa [belowO] using k2
          have := belowL_keep _ _ hb q3
          exact ⟨xs, q1, q2, by rwa [← hc'] at this⟩
    · cases ho
  · have ha' : a ∈ μ'.rv := by rw [e.rv]; exact ha
    obtain ⟨_, o, ho⟩ := rs.rv a ha'
    exact ⟨(rs0.rv a ha).1, o, ho⟩
theorem cut_ext {S0 S : Store} (rs0 : RelS K μ S0 H) (rs : RelS K μ' S H') (e : Ext K μ H μ' H') (k : keepable S0 S S0.length = true) : Ext K μ H μ H' := by
  obtain ⟨hc, _⟩ := cut_rel rs0 rs e k
  refine ⟨⟨⟨[], by simp⟩, fun v d r => ?_⟩, rfl, e.same⟩
  have h1 := below_keep (n := S0.length) d v (by rw [← rs0.len]; exact rep_below d v r) (e.mono v d r)
  rwa [hc] at h1
theorem handOut_rep {S0 S : Store} {fz : Bool} {d : D} {v : V} (rs0 : RelS K μ S0 H) (rs : RelS K μ' S H') (e : Ext K μ H μ' H') (k : keepable S0 S S0.length = true) (r : Rep K μ' H' v d) (b : below S0.length (handOut fz S0.length S d) = true) : Rep K μ H' v (handOut fz S0.length S d) := by
  obtain ⟨hc, _⟩ := cut_rel rs0 rs e k
  have plain : below S0.length d = true → Rep K μ H' v d := fun b => by
    have := below_keep d v b r
    rwa [hc] at this
  cases fz with
  | false =>
    have e0 : handOut false S0.length S d = d := by simp [handOut]
    rw [e0] at b ⊢
    exact plain b
  | true =>
    cases hl : locOf d with
    | none =>
      have e0 : handOut true S0.length S d = d := by simp [handOut, hl]
      rw [e0] at b ⊢
      exact plain b
    | some k' =>
      by_cases hk : S0.length ≤ k'
      · cases ha : atL S k' with
        | none =>
          have e0 : handOut true S0.length S d = d := by simp [handOut, hl, hk, ha]
          rw [e0] at b ⊢
          exact plain b
        | some xs =>
          have e0 : handOut true S0.length S d = .list xs := by simp [handOut, hl, hk, ha]
          rw [e0] at b ⊢
          obtain ⟨a, vs, h1, h2, h3⟩ := rs.lst_at ha
          have hv : v = .ref a := by
            cases r with
            | rf h =>
              rename_i a2 m
              have : k' = m := by simpa [locOf] using hl.symm
              subst this
              rw [h1] at h
              cases h
              rfl
            | ro h => simp [locOf] at hl
            | _ => simp [locOf] at hl
          subst hv
          have h4 := belowL_keep _ _ (by simpa [below] using b : belowL S0.length xs = true) h3
          rw [hc] at h4
          obtain ⟨ν, hν⟩ := e.pre
          refine .lst ⟨fun hm => ?_, fun hm => ?_⟩ h2 h4
          · obtain ⟨j, hj, q⟩ := List.getElem_of_mem hm
            have q2 : μ'.pl[j]? = some a := by rw [hν, List.getElem?_append_left hj, List.getElem?_eq_getElem hj, q]
            have := nodup_at rs.nd q2 h1
            have hj' := hj
            rw [rs0.len] at hj'
            omega
          · exact (rs.rv a (by rw [e.rv]; exact hm)).1 (mem_of_get h1)
      · have e0 : handOut true S0.length S d = d := by simp [handOut, hl, hk]
        rw [e0] at b ⊢
        exact plain b
theorem gc_post {fz : Bool} {o : Out} {S0 : Store} {Q : VK} {E : XK} (rs0 : RelS K μ S0 H) (h : Post K T μ H (RV K) Q E (gc fz S0 o)) : PostS K T μ H { nx := fun _ H' => Q .non H', rt := Q } (fun cls d _ H => E cls d H) o := by
  cases o with
  | nx env S =>
    intro σ' μ' H' rs e re
    simp only [gc] at h
    split at h
    · rename_i k
      exact h .non μ H' (cut_rel rs0 rs e k).2 (cut_ext rs0 rs e k) .non
    · exact h .non μ' H' rs e .non
  | bk env S => exact h.elim
  | ct env S => exact h.elim
  | rt d S =>
    intro z μ' H' rs e r
    simp only [gc] at h
    split at h
    · rename_i k
      simp only [Bool.and_eq_true] at k
      exact h z μ H' (cut_rel rs0 rs e k.2).2 (cut_ext rs0 rs e k.2) (handOut_rep rs0 rs e k.2 r k.1)
    · exact h z μ' H' rs e r
  | exc c d env S =>
    intro cls od σ' μ' H' x rs e re
    simp only [gc] at h
    split at h
    · rename_i k
      simp only [Bool.and_eq_true] at k
      obtain ⟨h1, dx, v, h2, h3, h4⟩ := x
      refine h cls od μ H' ⟨h1, dx, v, h2, h3, ?_⟩ (cut_rel rs0 rs e k.2).2 (cut_ext rs0 rs e k.2)
      have := below_keep d v k.1 h4
      rwa [(cut_rel rs0 rs e k.2).1] at this
    · exact h cls od μ' H' x rs e
  | bad => exact h
end
/-- a def of the program as it stands, and its text -/
structure DefIn (B : Tabs) (K : PySem.W.Frag) (mg : Str → Option Value) (tab : Nat → Option Fn) (x : Str) (f : Nat) where
  N : List Str
  params : Arguments
  body : List Stmt
  scope : Scope
  fn : Fn
  dvs : List V
  ad : Addr
  fd : FuncData
  htab : tab f = some fn
  hslots : fn.slots = N.length
  hpars : fn.pars = (B.prs f).length
  hsc : C8.scC N (B.prs f) scope = true
  hck : ckSs (B.at f) N scope fn.body body = true
  hlam : B.lms.contains f = true → ((K.lookup ad).bind (tabOf K)).isSome = true
  hmg : mg x = some (.ref ad)
  hF : FunD K x x params body scope dvs [] ad fd
  hd : ∀ j ≤ (B.dfs f).length, ∃ dvs ds, Binds K fd (B.prs f) ds ∧ Vals dvs ds ∧ ∀ (kw : KW) μ H, RepL kw μ H dvs ((B.dfs f).drop j)
  hk : ∀ k ∈ B.kws f, KwOk K fd (B.prs f) k
structure ModIn (B : Tabs) (w : World) (K : PySem.W.Frag) (mg : Str → Option Value) (tab : Nat → Option Fn) : Prop where
  fns : ∀ x f, B.fns.lookup x = some f → Nonempty (DefIn B K mg tab x f)
  tabP : ∀ f fn, tab f = some fn → fn.pars = (B.prs f).length
  cst : ∀ x d, B.cst.lookup x = some d → ∃ v u, mg x = some u ∧ RelV v u ∧ ∀ μ H, Rep ⟨K, w⟩ μ H v d
  bl : ∀ x ∈ B.bls, mg x = none
  kd : ∀ x kvs, B.kds.lookup x = some kvs → KdOk K w mg x kvs
/-- the module's exception classes -/
structure ExIn (B : Tabs) (T : Tb) (P : Program) (K : PySem.W.Frag) (mg : Str → Option Value) : Prop where
  ex : ∀ x c, B.exs.lookup x = some c → ExFact T P K mg x c
  en : ∀ x ∈ B.exn, ∃ cv, mg x = some cv
  em : ∀ c x b, ((c, x), b) ∈ B.exm → ∀ cv, mg x = some cv → PySem.W.exmOne K (.ref (T.ca c)) cv = some b
  xc : ∀ c f, (c, f) ∈ B.exf → T.cf c = f ∧ XcFact K (T.ca c) f
  is : ∀ c y b, ((c, y), b) ∈ B.ist → (∃ v cv, NameV mg y v cv ∧ PySem.W.kitOne K (.ref (T.ca c)) cv = some b) ∧ ExcC K (T.ca c)
  hr : ∀ x h, B.hrd.lookup x = some h → HrdFact B.off P K mg x h
/-- the tables of code stand -/
structure TabIn (K : PySem.W.Frag) (mg : Str → Option Value) (base : Heap) : Prop where
  tb : ∀ p ∈ tabsC K, LamX.TabB base mg p.1 p.2.1
  tu : ∀ p ∈ tabsOf K, ∀ q ∈ tabsOf K, p.1 = q.1 → p.2 = q.2
theorem mem_of_look2 {α : Type} {x : Addr} {v : α} : ∀ {l : List (Addr × α)}, l.lookup x = some v → (x, v) ∈ l
  | [], h => by cases h
  | (y, u) :: l, h => by
    rw [List.lookup_cons] at h
    cases hb : x == y with
    | true =>
      rw [hb] at h
      cases h
      rw [eq_of_beq hb]
      exact List.mem_cons_self ..
    | false =>
      rw [hb] at h
      exact List.mem_cons_of_mem _ (mem_of_look2 h)
section
variable {B : Tabs} {T : Tb} {P : Program} {w : World} {K : PySem.W.Frag} {mg : Str → Option Value} {base : Heap} {tab : Nat → Option Fn}
theorem run_len (h : ∀ f fn, tab f = some fn → fn.pars = (B.prs f).length) (n f : Nat) (ds : List D) (S : Store) (hl : ds.length ≠ (B.prs f).length) : run tab n f ds S = .bad := by
  cases n with
  | zero => rfl
  | succ n =>
    unfold run
    cases ht : tab f with
    | none => rfl
    | some fn => exact if_neg (by rw [h f fn ht]; exact hl)
theorem rel_start {K : KW} {μ : Mu} {H : Hp} {N : List Str} {vs : List V} {ds : List D} {k : Nat} (r : RepL K μ H vs ds) (h : ds.length = k) : RelE K μ H (ds.map some ++ List.replicate (N.length - k) none) (L2.start N vs) := by
  unfold L2.start
  have hl := r.length
  refine ⟨by simp [hl, h], fun i d hi => ?_⟩
  by_cases hlt : i < ds.length
  · rw [List.getElem?_append_left (by simpa using hlt)] at hi
    have h1 : ds[i]? = some d := by
      rw [List.getElem?_map] at hi
      cases hd : ds[i]? with
      | none => rw [hd] at hi; cases hi
      | some y => rw [hd] at hi; cases hi; rfl
    obtain ⟨v, h2, h3⟩ := r.get h1
    refine ⟨v, ?_, h3⟩
    rw [List.getElem?_append_left (by rw [List.length_map, hl]; exact hlt), List.getElem?_map, h2]
    rfl
  · rw [List.getElem?_append_right (by simpa using hlt), List.getElem?_replicate] at hi
    split at hi <;> cases hi
theorem tab_fn {oc : Value} {od an : Option Addr} {osl : Array (Option Value)} {x : Str} {params : Arguments} {body : List Stmt} {scope : Scope} {dV kV doc pm cdv ct : Value} {c P' : Addr} {q : Str}
    (hq : tabOf K ⟨oc, od, .func (PySem.W.fnOf x x params body scope dV kV doc pm an cdv ct), osl⟩ = some (c, P', q)) : cdv = .ref c ∧ q = (x ++ (".<locals>." : Str)) ++ ("<lambda>" : Str) := by
  unfold tabOf at hq
  cases cdv with
  | ref c0 =>
    simp only at hq
    split at hq
    · split at hq
      · simp only [Option.some.injEq, Prod.mk.injEq] at hq
        exact ⟨by rw [hq.1], hq.2.2.symm⟩
      · cases hq
    · cases hq
  | _ => simp at hq
theorem lam_of (Tn : TabIn K mg base) {n : Nat} {X : Cx} {ad c P' : Addr} {o : Obj} {q : Str} (hr : Room (3 * n + 4) X.A) (hK : X.K = K) (hm : X.mg = mg) (hb : X.base = base) (lk : K.lookup ad = some o) (hq : tabOf K o = some (c, P', q)) (hc : X.env.code = .ref c) (he : X.env.qual ++ ("<lambda>" : Str) = q) : LamOk n X := by
  subst hK hm hb
  have hmm : (c, P', q) ∈ tabsC X.K := List.mem_filterMap.mpr ⟨_, mem_of_look2 lk, hq⟩
  have hm2 : (P', q) ∈ tabsOf X.K := List.mem_map.mpr ⟨_, hmm, rfl⟩
  refine ⟨hr, c, P', hc, Tn.tb _ hmm, ?_, fun p hp e => ?_⟩
  · rw [he]; exact hm2
  · rw [he]; exact Tn.tu p hp _ hm2 e
/-- a def's body -/
theorem def_go (M : ModIn B w K mg tab) (Xn : ExIn B T P K mg) (Tn : TabIn K mg base) {n : Nat} (IH : GF B T (run tab n) n P w K mg base) {x : Str} {f : Nat} (D : DefIn B K mg tab x f) :
    FnOk P w K mg base (L2.CX P w) (3 * n + 5) D.ad D.fd (B.prs f) (spF ⟨K, w⟩ T (run tab (n + 1) f) (B.prs f).length) := by
  have S := C8.fnScope_by D.hsc
  have hl := D.hlam
  obtain ⟨oc, od, dV, kV, doc, pm, an, cdv, ct, osl, efd, lk, hcd, _, _⟩ := D.hF.ex
  rw [lk] at hl
  rw [efd] at lk hl ⊢
  refine fn_of lk hcd S (fun vs H Q E h => h.1) fun A outer s H vs Q E hr h => ?_
  obtain ⟨hl', μ, St, ds, rs, rl, h⟩ := h
  have c : CxS (B.at f) T (run tab n) n (cxOf (L2.CX P w) P w K mg base D.N x D.scope D.ad cdv A outer s H E) (fun cls d _ H => E cls d H) :=
    ⟨⟨S.nd, rfl, hr.mono (by omega), takes_of rfl rfl rfl rfl, IH.at f, fun z => by
      obtain ⟨⟨c, P', q⟩, hq⟩ := Option.isSome_iff_exists.mp (hl z)
      obtain ⟨e1, e2⟩ := tab_fn (oc := oc) (od := od) (osl := osl) (an := an) hq
      exact lam_of Tn hr rfl rfl rfl lk hq e1 e2.symm⟩, passes_of rfl, fun _ => rfl, S.kind, rfl, rfl⟩
  refine ⟨_, sound_ss D.fn.body c D.body D.hck, ?_⟩
  have hlen : ds.length = D.fn.pars := by rw [← rl.length, hl', D.hpars]
  refine ⟨μ, St, ds.map some ++ List.replicate (D.N.length - D.fn.pars) none, rs, rel_start rl hlen, ?_⟩
  unfold run at h
  rw [D.htab] at h
  simp only [if_pos hlen, D.hslots] at h
  exact gc_post rs h
/-- every def of the module does what its text of the small language does: by the depth of calls -/
theorem all_fns (M : ModIn B w K mg tab) (Xn : ExIn B T P K mg) (Tn : TabIn K mg base) : ∀ n, GF B T (run tab n) n P w K mg base
  | 0 => by
    refine ⟨fun x f hx => ?_, M.cst, M.bl, M.kd, run_len M.tabP 0, Xn.ex, Xn.en, Xn.em, Xn.xc, Xn.is, Xn.hr⟩
    obtain ⟨D⟩ := M.fns x f hx
    refine ⟨D.ad, D.fd, D.hmg, D.hF.kp, ⟨fun vs H Q E h => h.1, fun A outer s H args us vs Q E _ _ _ _ h => ?_⟩, (fun j hj => let ⟨dvs, ds, b, v, r⟩ := D.hd j hj; ⟨dvs, ds, b, v, r ⟨K, w⟩⟩), D.hk⟩
    obtain ⟨_, μ, S, ds, _, _, h⟩ := h
    exact h.elim
  | n + 1 => by
    have IH := all_fns M Xn Tn n
    refine ⟨fun x f hx => ?_, M.cst, M.bl, M.kd, run_len M.tabP (n + 1), Xn.ex, Xn.en, Xn.em, Xn.xc, Xn.is, Xn.hr⟩
    obtain ⟨D⟩ := M.fns x f hx
    exact ⟨D.ad, D.fd, D.hmg, D.hF.kp, def_go M Xn Tn IH D, (fun j hj => let ⟨dvs, ds, b, v, r⟩ := D.hd j hj; ⟨dvs, ds, b, v, r ⟨K, w⟩⟩), D.hk⟩
end
end DL

set_option linter.all false
set_option maxRecDepth 100000
/-! DL.End: a law, whole. -/
namespace DL
open PySem L2 PySem.Spec PyProof.Rows
section
variable {K : PySem.W.Frag} {x qual : Str} {params : Arguments} {body : List Stmt} {scope : Scope} {f : Addr} {fd : FuncData} {ps : List Str}
/-- no defaults -/
theorem hd0 (F : FunD K x qual params body scope [] [] f fd)
    (h : ∀ (kV doc pm : Value) (an : Option Addr) (cdv ct : Value) (us : List Value), us.length = ps.length → bindArgs (PySem.W.fnOf x qual params body scope .none kV doc pm an cdv ct) ⟨us, []⟩ = pure (ps.zip us)) :
    ∀ j ≤ ([] : List D).length, ∃ dvs ds, Binds K fd ps ds ∧ Vals dvs ds ∧ ∀ (kw : KW) μ H, RepL kw μ H dvs (([] : List D).drop j) := fun j _ =>
  ⟨[], [], FunD.bindsN F h, .nil, fun _ μ H => by rw [List.drop_nil]; exact .nil⟩
/-- keywords, no defaults -/
theorem kwN {k : Nat} (F : FunD K x qual params body scope [] [] f fd)
    (h : ∀ (kV doc pm : Value) (an : Option Addr) (cdv ct : Value) (us ws : List Value), us.length = k → ws.length = ps.length - k → bindArgs (PySem.W.fnOf x qual params body scope .none kV doc pm an cdv ct) ⟨us, (ps.drop k).zip ws⟩ = pure (ps.zip (us ++ ws))) : KwOk K fd ps k := by
  intro s us ws hK h1 h2
  obtain ⟨oc, od, dV, kV, doc, pm, an, cdv, ct, osl, rfl, lk, hcd, hD, hKw⟩ := F.ex
  rcases hD with ⟨_, rfl⟩ | ⟨e, _⟩
  · exact .of_eq (h kV doc pm an cdv ct us ws h1 h2)
  · exact absurd rfl e
end
theorem all_nil {α : Type} {P : α → Prop} : ∀ p ∈ ([] : List α), P p := fun p h => nomatch h
theorem all_cons {α : Type} {P : α → Prop} {a : α} {l : List α} (h : P a) (hl : ∀ p ∈ l, P p) : ∀ p ∈ a :: l, P p := fun p hp => by
  rcases List.mem_cons.mp hp with e | e
  · exact e ▸ h
  · exact hl p e
theorem mem_of_look {α : Type} {x : Str} {v : α} : ∀ {l : List (Str × α)}, l.lookup x = some v → (x, v) ∈ l
  | [], h => by cases h
  | (y, u) :: l, h => by
    rw [List.lookup_cons] at h
    cases hb : x == y with
    | true =>
      rw [hb] at h
      cases h
      rw [eq_of_beq hb]
      exact List.mem_cons_self ..
    | false =>
      rw [hb] at h
      exact List.mem_cons_of_mem _ (mem_of_look h)
theorem ModIn.of {B : Tabs} {w : World} {K : PySem.W.Frag} {mg : Str → Option Value} {tab : Nat → Option Fn} (fns : ∀ p ∈ B.fns, Nonempty (DefIn B K mg tab p.1 p.2)) (tabP : ∀ f fn, tab f = some fn → fn.pars = (B.prs f).length)
    (cst : ∀ p ∈ B.cst, ∃ v u, mg p.1 = some u ∧ RelV v u ∧ ∀ μ H, Rep ⟨K, w⟩ μ H v p.2) (bl : ∀ x ∈ B.bls, mg x = none) (kd : ∀ p ∈ B.kds, KdOk K w mg p.1 p.2) : ModIn B w K mg tab :=
  ⟨fun x f h => fns _ (mem_of_look h), tabP, fun x d h => cst _ (mem_of_look h), bl, fun x d h => kd _ (mem_of_look h)⟩
/-- the tables of code, as the head leaves them -/
structure TabsAt (K : PySem.W.Frag) (h : Heap) : Prop where
  at_ : ∀ p ∈ tabsC K, h.get? p.2.1 = some { cls := .none, data := .fields #[] }
  no : ∀ p ∈ tabsC K, K.lookup p.2.1 = none
  hd : ∀ p ∈ tabsC K, PySem.W.CodeHd h p.1 p.2.1
  tu : ∀ p ∈ tabsOf K, ∀ q ∈ tabsOf K, p.1 = q.1 → p.2 = q.2
theorem cst_int {w : World} {K : PySem.W.Frag} {h : Heap} {mg : Str → Option Value} (X : K.In h) (G : h.Ns mainGlobals mg) {x : Str} {i : Int} (c : (He.Fa.int x i).ok K = true) : ∃ v u, mg x = some u ∧ RelV v u ∧ ∀ μ H, Rep ⟨K, w⟩ μ H v (.int i) := by
  obtain ⟨t, e⟩ := He.int_ok X G c
  exact ⟨.int i, _, e, ⟨t, rfl⟩, fun _ _ => .int i⟩
theorem tab_pars {B : Tabs} {l : List Fn} (h : l.mapIdx (fun i fn => (fn.pars == (B.prs i).length)) = List.replicate l.length true) : ∀ f fn, l[f]? = some fn → fn.pars = (B.prs f).length := fun f fn e => by
  have h1 : (l.mapIdx (fun i fn => (fn.pars == (B.prs i).length)))[f]? = some (fn.pars == (B.prs f).length) := by simp [e]
  rw [h, List.getElem?_replicate] at h1
  split at h1
  · simpa using h1
  · cases h1
/-- the law walked by the small language -/
theorem walk_dl {l : PySem.W.OpenLaw} {n : Nat} {q : Program} {loose : List Str} {XP : (Str → Option Value) → Heap → Prop} {YP : World → Heap → Prop} {d : DefRec} {B : Tabs} {tab : Nat → Option Fn} {fl : Nat} {lx x : Str}
    (hn : l.most = some 63) (hdf : d.params.defaults = []) (hname : d.name = lx) (hr : Room (3 * n + 5) callerA) (hps : B.prs fl = [x])
    (F : ∀ (w : World) (mg : Str → Option Value) (h : Heap), YP w h → h.Ns mainGlobals mg →
      ∃ K : PySem.W.Frag, K.In h ∧ ModIn B w K mg tab ∧ (∃ T, ExIn B T l.prog K mg) ∧ TabsAt K h ∧ ∃ D : DefIn B K mg tab lx fl, ∀ (s : Shared) (u : Value), BindsTo s D.fd ⟨[u], []⟩ [(x, u)])
    (plain : ∀ ns : List Int, ns.length ≤ 63 → ∃ S, run tab (n + 1) fl [ro ns] [] = .ok (.bool true) S) :
    PySem.W.WalkO q loose XP YP l.row.toRowW d [] (fun f vs => PySem.call f vs) := by
  refine Att.attach_call hn hdf fun w s₀ s₁ mg mb fa o pm cd doc a vs ns G Y ho hd hcd hmg hobj hints hlen hg => ?_
  obtain ⟨K, KX, M, ⟨T, Xn⟩, Tb, D, hb⟩ := F w mg _ Y G.T.g
  obtain rfl : fa = D.ad := by
    have h1 := D.hmg
    have h2 : mg lx = some (.ref fa) := by rw [← hname]; exact hmg
    exact Value.ref.inj (Option.some.inj (h2.symm.trans h1))
  have mem : ∀ {p : Addr × Addr}, p ∈ (tabsC K).map (fun p => (p.1, p.2.1)) → ∃ z ∈ tabsC K, p = (z.1, z.2.1) := fun hp => by
    obtain ⟨z, h1, h2⟩ := List.mem_map.mp hp
    exact ⟨z, h1, h2.symm⟩
  refine LamX.law_callTs (CX := L2.CX l.prog w) (k := 3 * n + 5) (fd := D.fd) (x := x) (cs := (tabsC K).map fun p => (p.1, p.2.1)) (sp := spF ⟨K, w⟩ T (run tab (n + 1) fl) (B.prs fl).length) KX G.T.g G.T.b G.T.builtins G.T.nolimit hg (fun p hp => ?_) (fun p hp => ?_) (fun p hp => ?_) G.T.bmain hobj hints (Nat.le_trans hlen (by decide)) hr ?_ hb ?_ ?_
  · obtain ⟨z, h1, rfl⟩ := mem hp
    exact Tb.at_ z h1
  · obtain ⟨z, h1, rfl⟩ := mem hp
    exact Tb.no z h1
  · obtain ⟨z, h1, rfl⟩ := mem hp
    exact Tb.hd z h1
  · intro base _ _ hT
    rw [← hps]
    have Tn : TabIn K mg base := ⟨fun p hp => hT _ (List.mem_map.mpr ⟨p, hp, rfl⟩), Tb.tu⟩
    exact def_go M Xn Tn (all_fns M Xn Tn n) D
  · intro H hT hS
    obtain ⟨S', e⟩ := plain ns hlen
    have hr : SqR ⟨K, w⟩ ⟨[], []⟩ H a (ns.map V.int) := by
      rcases hS with (h | ⟨o, h⟩) | h
      · exact .inr (.inl ⟨⟨by simp, by simp⟩, h⟩)
      · exact .inl ⟨o, h⟩
      · exact .inr (.inr h)
    have tb : LamX.Tabs (tabsOf K) H := fun p hp => by
      obtain ⟨z, h1, rfl⟩ := List.mem_map.mp hp
      exact LamX.TabS.nil (hT _ (List.mem_map.mpr ⟨z, h1, rfl⟩))
    refine ⟨by rw [hps]; rfl, ⟨[], []⟩, [], [ro ns], ⟨rfl, List.nodup_nil, fun n o h => by simp at h, fun a h => by simp at h, tb⟩, .cons (.ro hr) .nil, ?_⟩
    rw [e]
    intro z μ' H' _ _ r
    cases r
    rfl
  · rintro H e s' ⟨_, _, _, _, _, _, _, _, _, _, _, _, z⟩
    exact z
end DL

set_option linter.all false
set_option maxRecDepth 100000
/-! DL.Hook: what is known of the module's tables and rows. -/
namespace DL
open PySem PySem.Spec PyProof.Rows L2 He
/-- further facts: a tuple of plain values, a table's values -/
inductive KC where
  | tup (x : Str) (vs : List Dv)
  | tab (x : Str) (kvs : List (Str × Dv))
def KC.ok (K : PySem.W.Frag) : KC → Bool
  | .tup x vs => tupB K x vs
  | .tab x kvs => valsB K (ga K x) kvs
/-! ### exception classes -/
/-- an exception class of the program: its name, its __init__'s parameter, the field; the def's own -/
structure ExD where
  name : Str
  pn : Str
  f : Str
  qual : Str
  params : Arguments
  body : List Stmt
  scope : Scope
abbrev FnI : Type := Option (Str × Str × Arguments × FuncBody × Scope × Addr × List Str × Value × Addr)
def exObs (K : PySem.W.Frag) (e : ExD) : FnI := match K.lookup (ma K (ga K e.name) "__init__") with
  | some ⟨_, _, .func fd, _⟩ => some (fd.name, fd.qualname, fd.params, fd.body, fd.scope, fd.globals, fd.closure.map (·.1), fd.defaults, fd.builtins)
  | _ => none
def ExD.val (e : ExD) : FnI := some ("__init__", e.qual, e.params, .stmts e.body, e.scope, mainGlobals, ["__class__"], .none, builtinsNs)
def isInit (pn f : Str) : List Stmt → Bool
  | [.Expr (.Call (.Attribute (.Call (.Name s0 _) [] [] _) s1 p2) [.Constant (.str _) _ _] [] p4) _, .Assign [.Attribute (.Name s2 _) g _] (.Name n _) _] =>
    s0 == ("super" : Str) && s1 == ("__init__" : Str) && (p2.endLine == p4.line) && s2 == ("self" : Str) && g == f && n == pn
  | _ => false
theorem isInit_ok {pn f : Str} {b : List Stmt} (h : isInit pn f b = true) : ∃ m j p0 p1 p2 p3 p4 p5 p6 p7 p8 p9, b = initBody pn f m j p0 p1 p2 p3 p4 p5 p6 p7 p8 p9 ∧ (p2.endLine == p4.line) = true := by
  unfold isInit at h
  split at h
  · simp only [Bool.and_eq_true, beq_iff_eq] at h
    obtain ⟨⟨⟨⟨⟨rfl, rfl⟩, h3⟩, rfl⟩, rfl⟩, rfl⟩ := h
    exact ⟨_, _, _, _, _, _, _, _, _, _, _, _, rfl, by simpa using h3⟩
  · cases h
def scIB (sc : Scope) (pn : Str) : Bool := decide (sc.kind = .function) && !sc.isCoroutine && !sc.isGenerator && sc.names.lookup ("super" : Str) == some .globalImplicit && sc.names.lookup ("__class__" : Str) == some .free && sc.names.lookup ("self" : Str) == some .local &&
  sc.names.lookup pn == some .local && !(pn == ("self" : Str)) && !(pn == ("__debug__" : Str)) && !(pn == ("__classdict__" : Str)) && sc.names.all fun y => !decide (y.2 = .cell) && (!decide (y.2 = .free) || y.1 == ("__class__" : Str))
theorem scIB_ok {sc : Scope} {pn : Str} (h : scIB sc pn = true) : ScI sc pn := by
  simp only [scIB, Bool.and_eq_true, Bool.not_eq_true', decide_eq_true_eq, beq_iff_eq, List.all_eq_true, decide_eq_false_iff_not, Bool.or_eq_true, beq_eq_false_iff_ne] at h
  obtain ⟨⟨⟨⟨⟨⟨⟨⟨⟨⟨h1, h2⟩, h3⟩, h4⟩, h5⟩, h6⟩, h7⟩, h8⟩, h9⟩, h10⟩, h11⟩ := h
  refine ⟨h1, h2, h3, h4, h5, h6, h7, h8, by simpa using h9, by simpa using h10, fun x hx => (h11 x hx).1, fun x hx e => ?_⟩
  rcases (h11 x hx).2 with q | q
  · exact absurd e q
  · exact q
def oexB (K : PySem.W.Frag) (C : Addr) : Bool := (match K.lookup C with
  | some ⟨.type t, _, .cls cd, sl⟩ => decide (t = "type") && (match cd.mro with
      | .ref c :: bm => decide (c = C) && PySem.HandSPX.refsVE bm
      | _ => false) && cd.hasDict && !cd.hasDel && (match sl.toList with
      | [_, _, _, _, k4, _] => decide (k4 = some (.builtin "ValueError.__new__"))
      | _ => false)
  | _ => false) && eqO (PySem.W.findIn K (.ref C) "__setattr__") (some (some (.builtin "object.__setattr__"))) && decide (PySem.W.subIn K (.ref C) (.type "BaseException") = some true) && decide (PySem.W.typeIn K (.ref C) = some (.type "type")) && PySem.W.keepIn K (.ref C)
theorem oexB_ok {K : PySem.W.Frag} {C : Addr} (h : oexB K C = true) : OexC K C := by
  simp only [oexB, Bool.and_eq_true] at h
  obtain ⟨⟨⟨⟨h1, h2⟩, h3⟩, h4⟩, h5⟩ := h
  refine ⟨?_, eqO_ok h2, of_decide_eq_true h3, of_decide_eq_true h4, h5⟩
  split at h1
  · rename_i t dd cd sl hK
    simp only [Bool.and_eq_true, decide_eq_true_eq, Bool.not_eq_true'] at h1
    obtain ⟨⟨⟨⟨rfl, q1⟩, q2⟩, q3⟩, q4⟩ := h1
    split at q1
    · rename_i c bm hm
      simp only [Bool.and_eq_true, decide_eq_true_eq] at q1
      obtain ⟨rfl, q1⟩ := q1
      split at q4
      · rename_i k0 k1 k2 k3 k4 k5 hs
        rw [decide_eq_true_eq] at q4
        subst q4
        obtain ⟨n1, n2, n3, n4, n5, n6, n7, n8, n9, n10, n11⟩ := cd
        simp only at hm q2 q3
        subst hm q2 q3
        have e : sl = #[k0, k1, k2, k3, some (.builtin "ValueError.__new__"), k5] := by
          apply Array.toList_inj.mp
          rw [hs]
        subst e
        exact ⟨_, _, _, _, _, _, _, _, _, _, _, _, _, _, _, hK, q1⟩
      · cases q4
    · cases q1
  · cases h1
def excCB (K : PySem.W.Frag) (D : Addr) : Bool := eqO (PySem.W.findIn K (.ref D) "__getattribute__") (some (some (.builtin "BaseException.__getattribute__"))) && eqO (PySem.W.findIn K (.ref D) "__getattr__") (some none) && decide (PySem.W.subIn K (.ref D) (.type "BaseException") = some true) && PySem.W.hasDictIn K D &&
  eqO (PySem.W.findIn K (.ref D) "__class__") (some (some (.builtin "object.__class__"))) && eqO (PySem.W.specialIn K (.builtin "object.__class__") "__get__") (some (some (.builtin "getset_descriptor.__get__"))) && decide (PySem.W.takesIn K (.builtin "object.__class__") = some true) && decide (PySem.W.mroIn K D (.type "object") = some true)
theorem excCB_ok {K : PySem.W.Frag} {D : Addr} (h : excCB K D = true) : ExcC K D := by
  simp only [excCB, Bool.and_eq_true, decide_eq_true_eq] at h
  obtain ⟨⟨⟨⟨⟨⟨⟨h1, h2⟩, h3⟩, h4⟩, h5⟩, h6⟩, h7⟩, h8⟩ := h
  exact ⟨eqO_ok h1, eqO_ok h2, h3, h4, eqO_ok h5, eqO_ok h6, h7, h8⟩
/-- the code and the cell of its __init__ -/
def initB (K : PySem.W.Frag) (file : Str) (C fI : Addr) (q : Str) : Bool := match K.lookup fI with
  | some ⟨_, _, .func fd, _⟩ => (match fd.closure, fd.code with
    | [(_, cc)], .ref cda => PySem.W.codeIn K (.ref cda) q && (match K.lookup cc with
        | some ⟨_, _, .cell (some (.ref C')), _⟩ => decide (C' = C)
        | _ => false) && (match K.lookup cda with
        | some ⟨_, _, .fields vs, _⟩ => (match vs.toList[2]? with
          | some (Value.str fl _) => file == fl
          | _ => false)
        | _ => false)
    | _, _ => false)
  | _ => false
def exB (K : PySem.W.Frag) (file : Str) (e : ExD) : Bool := oexB K (ga K e.name) && (Fa.glo e.name).ok K && eqO (PySem.W.findIn K (.ref (ga K e.name)) "__init__") (some (some (.ref (ma K (ga K e.name) "__init__")))) && decide (PySem.W.typeIn K (.ref (ma K (ga K e.name) "__init__")) = some (.type "function")) &&
  eqO (PySem.W.nsIn K cStatics "thirdparty.any") (some none) && eqO (PySem.W.ks_superIn K (ga K e.name) (ga K e.name) "__init__") (some (some (.builtin "ValueError.__init__"))) && decide (PySem.W.subIn K (.ref (ga K e.name)) (.type "ValueError") = some true) && decide (PySem.W.mroIn K (ga K e.name) (.ref (ga K e.name)) = some true) &&
  eqO (PySem.W.findIn K (.ref (ga K e.name)) e.f) (some none) && initB K file (ga K e.name) (ma K (ga K e.name) "__init__") e.qual && xfB K (ga K e.name) && excCB K (ga K e.name)
theorem exFact {P : Program} {K : PySem.W.Frag} {h : Heap} {mg : Str → Option Value} {T : Tb} {e : ExD} {c : Nat} (X : K.In h) (G : h.Ns mainGlobals mg) (o : exObs K e = e.val) (b : exB K P.main.file e = true) (hi : isInit e.pn e.f e.body = true) (hs : scIB e.scope e.pn = true)
    (hp : ∃ ar, (e.params.posonlyargs ++ e.params.args).head? = some ar ∧ ar.arg = "self")
    (hb : ∀ (kV doc pm : Value) (an : Option Addr) (cdv ct : Value) (cc : Addr) (us : List Value), us.length = 2 → bindArgs (PySem.W.ksFn "__init__" e.qual e.params e.body e.scope .none kV doc pm an cdv ct cc) ⟨us, []⟩ = pure ((["self", e.pn] : List Str).zip us))
    (hsup : mg "super" = none) (htop : (P.main.scope.names.lookup ("super" : Str)).isSome = false) (h1 : T.ca c = ga K e.name) (h2 : T.cf c = e.f) : ExFact T P K mg e.name c ∧ XcFact K (T.ca c) e.f := by
  simp only [exB, Bool.and_eq_true, decide_eq_true_eq] at b
  obtain ⟨⟨⟨⟨⟨⟨⟨⟨⟨⟨⟨b1, b2⟩, b3⟩, b4⟩, b5⟩, b6⟩, b7⟩, b8⟩, b9⟩, b10⟩, b11⟩, b12⟩ := b
  have gC := glo_ok X G b2
  rw [← h1] at gC b1 b3 b4 b6 b7 b8 b9 b10 b11 b12
  unfold exObs at o
  rw [← h1] at o
  obtain ⟨m, j, p0, p1, p2, p3, p4, p5, p6, p7, p8, p9, ebody, hline⟩ := isInit_ok hi
  unfold initB at b10
  split at b10
  · rename_i oc od fd osl hfd
    rw [hfd] at o
    obtain ⟨n1, n2, n3, n4, n5, n6, n7, n8, n9, n10, n11, n12, n13, n14, n15⟩ := fd
    have o2 : (some (n1, n2, n3, n4, n5, n6, n7.map (·.1), n8, n15) : FnI) = some (("__init__" : Str), e.qual, e.params, FuncBody.stmts e.body, e.scope, mainGlobals, [("__class__" : Str)], Value.none, builtinsNs) := o
    simp only [Option.some.injEq, Prod.mk.injEq] at o2
    obtain ⟨rfl, rfl, rfl, rfl, rfl, rfl, h7, rfl, rfl⟩ := o2
    simp only at b10
    split at b10
    · rename_i z1 z2 x1 cc cda
      simp only [List.map_cons, List.map_nil, List.cons.injEq, and_true] at h7
      subst h7
      simp only [Bool.and_eq_true] at b10
      obtain ⟨⟨c1, c2⟩, c3⟩ := b10
      split at c2
      · rename_i cl cld C' csl hcc
        rw [decide_eq_true_eq] at c2
        subst c2
        split at c3
        · rename_i ccl cdd vs ccs hcd
          split at c3
          · rename_i fl tf hv
            have I : InitIs P K mg (T.ca c) (ma K (T.ca c) "__init__") cda cc (PySem.W.ksFn "__init__" e.qual e.params e.body e.scope .none n9 n10 n11 n12 (.ref cda) n14 cc) e.pn (T.cf c) := by
              rw [h2]
              refine ⟨oexB_ok b1, ⟨"__init__", e.qual, e.params, e.scope, m, j, p0, p1, p2, p3, p4, p5, p6, p7, p8, p9, .none, n9, n10, n11, n12, n14, by rw [ebody], c1, scIB_ok hs, hline, hp⟩, ⟨oc, od, osl, hfd⟩, ⟨ccl, cdd, ccs, vs, fl, tf, hcd, by simpa using hv, c3⟩, ⟨cl, cld, csl, hcc⟩, hsup, eqO_ok b5, eqO_ok b6, b7, b8, eqO_ok b9, htop⟩
            refine ⟨⟨gC, ?_⟩, xfB_ok b11, excCB_ok b12, eqO_ok b9⟩
            exact ⟨_, _, _, _, e.pn, I, eqO_ok b3, b4, .all fun us hl => hb _ _ _ _ _ _ _ us hl⟩
          · cases c3
        · cases c3
      · cases c2
    · cases b10
  · cases b10
/-! ### the tables of code -/
def isTab0 (o : Option Obj) : Bool := match o with
  | some ⟨.none, none, .fields vs, sl⟩ => vs.isEmpty && sl.isEmpty
  | _ => false
theorem isTab0_ok {o : Option Obj} (h : isTab0 o = true) : o = some { cls := .none, data := .fields #[] } := by
  unfold isTab0 at h
  split at h
  · simp only [Bool.and_eq_true, Array.isEmpty_iff] at h
    obtain ⟨rfl, rfl⟩ := h
    rfl
  · cases h
def cdB (K : PySem.W.Frag) (c P : Addr) : Bool := match K.lookup c with
  | some ⟨.type t, _, .fields vs, _⟩ => decide (t = "code") && decide (vs[11]? = some (.ref P)) && (match vs.getD 18 .none with
      | .str _ _ => true
      | _ => false) && (match vs.getD 7 .none with
      | .int _ _ => true
      | _ => false) && (match vs.getD 9 .none with
      | .bool _ => true
      | _ => false) && (match vs.getD 10 .none with
      | .int _ _ => true
      | _ => false) && decide (c ≠ P)
  | _ => false
theorem cdB_ok {K : PySem.W.Frag} {h : Heap} {c P : Addr} (X : K.In h) (b : cdB K c P = true) : PySem.W.CodeHd h c P := by
  unfold cdB at b
  split at b
  · rename_i t dd vs sl hK
    simp only [Bool.and_eq_true, decide_eq_true_eq] at b
    obtain ⟨⟨⟨⟨⟨⟨rfl, b1⟩, b2⟩, b3⟩, b4⟩, b5⟩, b6⟩ := b
    split at b2
    · rename_i q2
      split at b3
      · rename_i q3
        split at b4
        · rename_i q4
          split at b5
          · rename_i q5
            exact ⟨_, vs, _, _, _, _, _, _, _, X _ _ hK, rfl, rfl, b1, by rw [Array.getD_eq_getD_getElem?, b1]; rfl, q2, q3, q4, q5, b6⟩
          · cases b5
        · cases b4
      · cases b3
    · cases b2
  · cases b
def tabsB (K : PySem.W.Frag) (g : Addr → Option Obj) : Bool := (tabsC K).all fun p => isTab0 (g p.2.1) && (K.lookup p.2.1).isNone && cdB K p.1 p.2.1 && (tabsC K).all fun q => decide (p.2.1 ≠ q.2.1) || decide (p.2.2 = q.2.2)
/-- what is looked at: what the module's names reach, and the cell of statics; no tables -/
def asK (g : Addr → Option Obj) (n : Nat) : List Addr := (asD g n ++ [cStatics]).filter fun a => !isTab0 (g a)
theorem tabsAt_of {K : PySem.W.Frag} {h : Heap} (X : K.In h) (b : tabsB K h.get? = true) : TabsAt K h := by
  have b := List.all_eq_true.mp b
  have k : ∀ p ∈ tabsC K, ((isTab0 (h.get? p.2.1) = true ∧ (K.lookup p.2.1).isNone = true) ∧ cdB K p.1 p.2.1 = true) ∧ (tabsC K).all (fun q => decide (p.2.1 ≠ q.2.1) || decide (p.2.2 = q.2.2)) = true := fun p hp => by
    have := b p hp
    simpa only [Bool.and_eq_true] using this
  refine ⟨fun p hp => isTab0_ok (k p hp).1.1.1, fun p hp => Option.isNone_iff_eq_none.mp (k p hp).1.1.2, fun p hp => cdB_ok X (k p hp).1.2, fun p hp q hq e => ?_⟩
  obtain ⟨p', hp', rfl⟩ := List.mem_map.mp hp
  obtain ⟨q', hq', rfl⟩ := List.mem_map.mp hq
  have := List.all_eq_true.mp (k p' hp').2 q' hq'
  simp only [Bool.or_eq_true, decide_eq_true_eq] at this
  rcases this with h1 | h1
  · exact absurd e h1
  · exact h1
/-! ### classes in clauses -/
def exN (exl : List ExD) (c : Nat) : Str := match exl[c]? with
  | some e => e.name
  | none => ""
def exF (exl : List ExD) (c : Nat) : Str := match exl[c]? with
  | some e => e.f
  | none => ""
def tbOf (K : PySem.W.Frag) (exl : List ExD) : Tb := ⟨fun c => ga K (exN exl c), exF exl⟩
/-- a class's name in isinstance: one of the program's own, or a built-in one -/
def isB (K : PySem.W.Frag) (exl : List ExD) (own : List Str) (p : (Nat × Str) × Bool) : Bool := match own.contains p.1.2 with
  | true => (Fa.glo p.1.2).ok K && decide (PySem.W.kitOne K (.ref (ga K (exN exl p.1.1))) (.ref (ga K p.1.2)) = some p.2) && excCB K (ga K (exN exl p.1.1))
  | false => (Fa.free p.1.2).ok K && (match bootBuiltins p.1.2 with
      | some (.type n) => decide (PySem.W.kitOne K (.ref (ga K (exN exl p.1.1))) (.type n) = some p.2)
      | _ => false) && decide (p.1.2 ≠ "__name__") && excCB K (ga K (exN exl p.1.1))
theorem isB_ok {K : PySem.W.Frag} {h : Heap} {mg : Str → Option Value} {exl : List ExD} {own : List Str} {c : Nat} {y : Str} {b : Bool} (X : K.In h) (G : h.Ns mainGlobals mg) (q : isB K exl own ((c, y), b) = true) :
    (∃ v cv, NameV mg y v cv ∧ PySem.W.kitOne K (.ref ((tbOf K exl).ca c)) cv = some b) ∧ ExcC K ((tbOf K exl).ca c) := by
  unfold isB at q
  split at q
  · simp only [Bool.and_eq_true, decide_eq_true_eq] at q
    exact ⟨⟨.ref (ga K y), .ref (ga K y), ⟨.own _, .inl (glo_ok X G q.1.1)⟩, q.1.2⟩, excCB_ok q.2⟩
  · simp only [Bool.and_eq_true, decide_eq_true_eq] at q
    obtain ⟨⟨⟨q1, q2⟩, q3⟩, q4⟩ := q
    split at q2
    · rename_i n hn
      exact ⟨⟨.ty n, .type n, ⟨.ty n, .inr ⟨free_ok X G q1, hn, q3⟩⟩, of_decide_eq_true q2⟩, excCB_ok q4⟩
    · cases q2
/-- the facts of the exceptions -/
structure XD where
  exl : List ExD := []
  own : List Str := []
  exm : List ((Nat × Str) × Bool) := []
  ist : List ((Nat × Str) × Bool) := []
  lms : List Str := []
def xdB (K : PySem.W.Frag) (file : Str) (x : XD) : Bool := (x.exl.all fun e => exB K file e) && (x.exm.all fun p => (Fa.glo p.1.2).ok K && decide (PySem.W.exmOne K (.ref (ga K (exN x.exl p.1.1))) (.ref (ga K p.1.2)) = some p.2)) && (x.ist.all fun p => isB K x.exl x.own p) &&
  x.lms.all fun y => ((K.lookup (ga K y)).bind (tabOf K)).isSome
abbrev AlX : Type := AlT × Bool × Bool × Bool × List FnI
def obsX (file : Str) (fa : List Fa) (fn : List DefD) (ts : List Tab) (ex : List KC) (xd : XD) (K : PySem.W.Frag) (g : Addr → Option Obj) : AlX := (obsT fa fn ts K, ex.all fun f => f.ok K, xdB K file xd, tabsB K g, xd.exl.map (exObs K))
def valX (fn : List DefD) (ts : List Tab) (xd : XD) (w : World) : AlX := (valT fn ts w, true, true, true, xd.exl.map ExD.val)
def obsXG (n : Nat) (file : Str) (fa : List Fa) (fn : List DefD) (ts : List Tab) (ex : List KC) (xd : XD) (g : Addr → Option Obj) : AlX := obsX file fa fn ts ex xd (frG g (asK g n)) g
structure SaysX (file : Str) (fa : List Fa) (fn : List DefD) (ts : List Tab) (ex : List KC) (xd : XD) (w : World) (K : PySem.W.Frag) (h : Heap) : Prop where
  t : SaysT fa fn ts w K
  xs : (ex.all fun f => f.ok K) = true
  xb : xdB K file xd = true
  tb : TabsAt K h
  eo : xd.exl.map (exObs K) = xd.exl.map ExD.val
theorem TabsAt.keeps {K : PySem.W.Frag} {h h' : Heap} (t : TabsAt K h) (k : ∀ b o, h.get? b = some o → h'.get? b = some o) : TabsAt K h' :=
  ⟨fun p hp => k _ _ (t.at_ p hp), t.no, fun p hp => (t.hd p hp).keeps k, t.tu⟩
def hookX (n : Nat) (file : Str) (fa : List Fa) (fn : List DefD) (ts : List Tab) (ex : List KC) (xd : XD) : PySem.W.Hook where
  α := AlX
  obs := fun s => obsXG n file fa fn ts ex xd s.heap.get?
  val := fun w => valX fn ts xd w
  says := fun w h => ∃ K : PySem.W.Frag, K.In h ∧ SaysX file fa fn ts ex xd w K h
  of := fun _ _ e => ⟨_, frG_in, congrArg (fun z : AlX => z.1) e, congrArg (fun z : AlX => z.2.1) e, congrArg (fun z : AlX => z.2.2.1) e, tabsAt_of frG_in (congrArg (fun z : AlX => z.2.2.2.1) e), congrArg (fun z : AlX => z.2.2.2.2) e⟩
  keeps := fun _ _ _ ⟨K, hK, c⟩ k => ⟨K, PySem.W.Frag.In.keeps hK k, c.t, c.xs, c.xb, c.tb.keeps k, c.eo⟩
theorem obsXG_eq {n : Nat} {file : Str} {fa : List Fa} {fn : List DefD} {ts : List Tab} {ex : List KC} {xd : XD} {g : Addr → Option Obj} {s : Shared} (h : ∀ a, g a = s.heap.get? a) : obsXG n file fa fn ts ex xd g = (hookX n file fa fn ts ex xd).obs s := by
  have e : g = s.heap.get? := funext h
  rw [e] <;> rfl
section
variable {file : Str} {fa : List Fa} {fn : List DefD} {ts : List Tab} {ex : List KC} {xd : XD} {w : World} {K : PySem.W.Frag} {h : Heap} {mg : Str → Option Value}
theorem SaysX.x (c : SaysX file fa fn ts ex xd w K h) (i : Nat) {f : KC} (e : ex[i]? = some f := by rfl) : f.ok K = true := List.all_eq_true.mp c.xs f (List.mem_of_getElem? e)
theorem SaysX.xd3 (c : SaysX file fa fn ts ex xd w K h) : (∀ e ∈ xd.exl, exB K file e = true) ∧ (∀ p ∈ xd.exm, (Fa.glo p.1.2).ok K = true ∧ PySem.W.exmOne K (.ref (ga K (exN xd.exl p.1.1))) (.ref (ga K p.1.2)) = some p.2) ∧ (∀ p ∈ xd.ist, isB K xd.exl xd.own p = true) ∧ ∀ y ∈ xd.lms, ((K.lookup (ga K y)).bind (tabOf K)).isSome = true := by
  have := c.xb
  simp only [xdB, Bool.and_eq_true, List.all_eq_true, decide_eq_true_eq] at this
  exact ⟨this.1.1.1, this.1.1.2, this.1.2, this.2⟩
theorem SaysX.obs (c : SaysX file fa fn ts ex xd w K h) {i : Nat} {e : ExD} (hi : xd.exl[i]? = some e) : exObs K e = e.val := by
  have e2 : (xd.exl.map (exObs K))[i]? = (xd.exl.map ExD.val)[i]? := by rw [c.eo]
  rw [List.getElem?_map, List.getElem?_map, hi] at e2
  exact Option.some.inj e2
/-- what the text of an exception class's __init__ must be -/
structure ExTxt (e : ExD) : Prop where
  hi : isInit e.pn e.f e.body = true
  hs : scIB e.scope e.pn = true
  hp : ∃ ar, (e.params.posonlyargs ++ e.params.args).head? = some ar ∧ ar.arg = "self"
  hb : ∀ (kV doc pm : Value) (an : Option Addr) (cdv ct : Value) (cc : Addr) (us : List Value), us.length = 2 → bindArgs (PySem.W.ksFn "__init__" e.qual e.params e.body e.scope .none kV doc pm an cdv ct cc) ⟨us, []⟩ = pure ((["self", e.pn] : List Str).zip us)
theorem exIn {B : Tabs} {P : Program} (c : SaysX file fa fn ts ex xd w K h) (X : K.In h) (G : h.Ns mainGlobals mg) (hf : P.main.file = file) (htxt : ∀ e ∈ xd.exl, ExTxt e) (hsup : xd.exl ≠ [] → mg "super" = none) (htop : xd.exl ≠ [] → (P.main.scope.names.lookup ("super" : Str)).isSome = false)
    (h1 : ∀ p ∈ B.exs, (xd.exl[p.2]?).map (·.name) = some p.1) (h2 : ∀ x ∈ B.exn, ∃ p ∈ xd.exm, p.1.2 = x) (h3 : B.exm = xd.exm) (h4 : ∀ p ∈ B.exf, (xd.exl[p.1]?).map (·.f) = some p.2) (h5 : B.ist = xd.ist) (h6 : ∀ p ∈ B.hrd, HrdFact B.off P K mg p.1 p.2) : ∃ T, ExIn B T P K mg := by
  obtain ⟨x1, x2, x3, x4⟩ := c.xd3
  have one : ∀ i e, xd.exl[i]? = some e → ExFact (tbOf K xd.exl) P K mg e.name i ∧ XcFact K ((tbOf K xd.exl).ca i) e.f := fun i e hi => by
    have he := List.mem_of_getElem? hi
    have t := htxt e he
    have ne : xd.exl ≠ [] := fun z => by rw [z] at hi; cases hi
    exact exFact X G (c.obs hi) (by rw [hf]; exact x1 e he) t.hi t.hs t.hp t.hb (hsup ne) (htop ne) (by show ga K (exN xd.exl i) = _; unfold exN; rw [hi]) (by show exF xd.exl i = _; unfold exF; rw [hi])
  refine ⟨tbOf K xd.exl, fun x k hx => ?_, fun x hx => ?_, fun k x b hm cv hcv => ?_, fun k f hm => ?_, fun k y b hm => ?_, fun x hh hx => h6 _ (mem_of_look hx)⟩
  · have := h1 _ (mem_of_look hx)
    simp only [Option.map_eq_some_iff] at this
    obtain ⟨e, he, rfl⟩ := this
    exact (one k e he).1
  · obtain ⟨p, hp, rfl⟩ := h2 x hx
    exact ⟨_, glo_ok X G (x2 p hp).1⟩
  · rw [h3] at hm
    obtain ⟨q1, q2⟩ := x2 _ hm
    have := glo_ok X G q1
    rw [this] at hcv
    cases hcv
    exact q2
  · have := h4 _ hm
    simp only [Option.map_eq_some_iff] at this
    obtain ⟨e, he, e2⟩ := this
    subst e2
    refine ⟨?_, (one k e he).2⟩
    show exF xd.exl k = _
    unfold exF
    rw [he]
  · rw [h5] at hm
    exact isB_ok X G (x3 _ hm)
theorem hrd_of {B : Tabs} {P : Program} {x : Str} {params : Arguments} {body : List Stmt} {scope : Scope} {fd : FuncData} {hh : HrdS} {a : Str} (X : K.In h) (G : h.Ns mainGlobals mg) (c : (Fa.glo x).ok K = true) (F : FunD K x x params body scope [] [] (fAd K (x, none)) fd)
    (hb : ∀ (kV doc pm : Value) (an : Option Addr) (cdv ct : Value) (us : List Value), us.length = 1 → bindArgs (PySem.W.fnOf x x params body scope .none kV doc pm an cdv ct) ⟨us, []⟩ = pure (([a] : List Str).zip us)) (hs : FnScope hh.N [a] scope) (hk : ckHrd B.off scope a hh body = true) : HrdFact B.off P K mg x hh := by
  have b := FunD.bindsN (ps := [a]) F hb
  have kp := F.kp
  obtain ⟨oc, od, dV, kV, doc, pm, an, cdv, ct, osl, rfl, lk, hcd, _, _⟩ := F.ex
  exact ⟨fAd K (x, none), a, params, body, scope, dV, kV, doc, pm, cdv, ct, oc, an, od, osl, glo_ok X G c, kp, lk, hcd, b, hs, hk⟩
end
section
variable {w : World} {K : PySem.W.Frag} {h : Heap} {mg : Str → Option Value}
/-- what the model leaves open, one question told -/
def World.tell (w : World) (x : String) (b : Bool) : World := { w with params := { w.params with followText := fun s => if s == x then b else w.params.followText s } }
theorem tell_split {p : World → Prop} (x : String) (w : World) (h : ∀ b, p (World.tell w x b)) : p w := by
  have e : World.tell w x (w.params.followText x) = w := by
    have : (fun s => if (s == x) = true then w.params.followText x else w.params.followText s) = w.params.followText := by
      funext s
      by_cases c : s = x
      · subst c
        simp
      · simp [c]
    unfold World.tell
    rw [this]
  rw [← e]
  exact h _
/-- a plain value as a datum -/
def dvD : Dv → Option D
  | .non => some .none
  | .bl b => some (.bool b)
  | .int i => some (.int i)
  | .str x => some (.str x)
  | _ => none
theorem dvD_rep {v : Dv} {d : D} (e : dvD v = some d) (μ : Mu) (H : Hp) : Rep ⟨K, w⟩ μ H (v.v K) d := by
  cases v <;> simp only [dvD, Option.some.injEq, reduceCtorEq] at e <;> subst e
  · exact .non
  · exact .bl _
  · exact .int _
  · exact .str _
theorem dvs_rep {μ : Mu} {H : Hp} : ∀ {vs : List Dv} {ds : List D}, vs.map dvD = ds.map some → RepL ⟨K, w⟩ μ H (vs.map (Dv.v K)) ds
  | [], [], _ => .nil
  | [], _ :: _, h => by cases h
  | _ :: _, [], h => by cases h
  | v :: vs, d :: ds, h => by
    simp only [List.map_cons, List.cons.injEq] at h
    exact .cons (dvD_rep h.1 μ H) (dvs_rep h.2)
theorem cst_tup (X : K.In h) (G : h.Ns mainGlobals mg) {x : Str} {vs : List Dv} {ds : List D} (c : (Fa.glo x).ok K = true) (t : (KC.tup x vs).ok K = true) (e : vs.map dvD = ds.map some) : ∃ v u, mg x = some u ∧ RelV v u ∧ ∀ μ H, Rep ⟨K, w⟩ μ H v (.tuple ds) :=
  ⟨.ref (ga K x), .ref (ga K x), glo_ok X G c, rfl, fun μ H => .tup (tupB_ok t H) (dvs_rep e)⟩
theorem kd_ok (X : K.In h) (G : h.Ns mainGlobals mg) {x : Str} {kvs : List (Str × Dv)} {ds : List (Str × D)} (c : (Fa.glo x).ok K = true) (dk : ∃ es n, KDict K w (ga K x) es n) (t : (KC.tab x kvs).ok K = true) (e : kvs.map (fun p => (p.1, dvD p.2)) = ds.map fun p => (p.1, some p.2)) : KdOk K w mg x ds := by
  obtain ⟨es, n, Dk⟩ := dk
  refine ⟨ga K x, es, n, glo_ok X G c, Dk, fun z d hz => ?_⟩
  have key : ∀ {l : List (Str × Dv)} {m : List (Str × D)}, l.map (fun p => (p.1, dvD p.2)) = m.map (fun p => (p.1, some p.2)) → m.lookup z = some d → ∃ q ∈ l, q.1 = z ∧ dvD q.2 = some d := by
    intro l
    induction l with
    | nil =>
      intro m h1 h2
      cases m with
      | nil => cases h2
      | cons a m => cases h1
    | cons a l ih =>
      intro m h1 h2
      cases m with
      | nil => cases h2
      | cons b m =>
        simp only [List.map_cons, List.cons.injEq, Prod.mk.injEq] at h1
        obtain ⟨b1, b2⟩ := b
        rw [List.lookup_cons] at h2
        cases hb : z == b1 with
        | true =>
          rw [hb] at h2
          cases h2
          exact ⟨a, List.mem_cons_self .., h1.1.1.trans (eq_of_beq hb).symm, h1.1.2⟩
        | false =>
          rw [hb] at h2
          obtain ⟨q, q1, q2⟩ := ih h1.2 h2
          exact ⟨q, List.mem_cons_of_mem _ q1, q2⟩
  obtain ⟨q, q1, q2, q3⟩ := key e hz
  obtain ⟨u, u1, u2⟩ := valsB_ok t q1
  exact ⟨u, q.2.v K, by rw [← q2]; exact u1, u2, fun μ H => dvD_rep q3 μ H⟩
end
end DL

set_option linter.all false
/-! DL.Math: how the small language runs, by equations. -/
namespace DL
open PySem L2
section
variable {F : FS} {env : Env} {S : Store}
theorem ev_c {d : D} : ev F (.c d) env S = .ok d S := rfl
theorem ev_v {i : Nat} {d : D} (h : env[i]? = some (some d)) : ev F (.v i) env S = .ok d S := by simp [ev, h]
theorem handOut_self (fz : Bool) (S : Store) (d : D) : handOut fz S.length S d = d := by
  unfold handOut
  cases fz with
  | false => rfl
  | true =>
    cases hl : locOf d with
    | none => rfl
    | some k =>
      simp only
      split
      · rename_i hk
        have : atL S k = none := by
          unfold atL
          rw [List.getElem?_eq_none hk]
        rw [this]
      · rfl
/-- nothing laid, nothing changed -/
theorem gc_same (fz : Bool) (S : Store) (d : D) : gc fz S (.rt d S) = .ok d S := by
  simp only [gc, handOut_self, List.take_length, ite_self]

mutual
/-- data that name no place -/
def gnd : D → Bool
  | .list xs => gndL xs
  | .tuple xs => gndL xs
  | .dict _ => false
  | _ => true
def gndL : List D → Bool
  | [] => true
  | x :: r => gnd x && gndL r
end
mutual
theorem below_gnd : ∀ {d : D} {n : Nat}, gnd d = true → below n d = true
  | .none, _, _ => rfl
  | .bool _, _, _ => rfl
  | .int _, _, _ => rfl
  | .str _, _, _ => rfl
  | .list xs, n, h => by simpa [below] using belowL_gnd (xs := xs) (by simpa [gnd] using h)
  | .tuple xs, n, h => by simpa [below] using belowL_gnd (xs := xs) (by simpa [gnd] using h)
  | .dict k, n, h => by simp [gnd] at h
theorem belowL_gnd : ∀ {xs : List D} {n : Nat}, gndL xs = true → belowL n xs = true
  | [], _, _ => rfl
  | x :: r, n, h => by
    simp only [gndL, Bool.and_eq_true] at h
    simp [belowL, below_gnd h.1, belowL_gnd h.2]
end
theorem gndL_iff : ∀ {xs : List D}, gndL xs = true ↔ ∀ x ∈ xs, gnd x = true
  | [] => by simp [gndL]
  | x :: r => by simp [gndL, gndL_iff (xs := r)]
/-- all places hold lists -/
def lsts (S : Store) : Bool := S.all fun o => match o with
  | .lst _ => true
  | _ => false
theorem beqO_refl {o : MO} (h : (match o with | .lst _ => true | _ => false) = true) : beqO o o = true := by
  cases o <;> simp [beqO] at h ⊢
/-- what of S0 was changed now holds but data -/
def Near : Store → Store → Prop
  | [], _ => True
  | a :: r, b :: s => (b = a ∨ ∃ xs, b = .lst xs ∧ gndL xs = true) ∧ Near r s
  | _ :: _, [] => False
theorem near_keep : ∀ {S0 S : Store} {n : Nat}, lsts S0 = true → Near S0 S → keepable S0 S n = true
  | [], _, _, _, _ => rfl
  | a :: r, [], _, _, h => h.elim
  | a :: r, b :: s, n, l, ⟨h1, h2⟩ => by
    simp only [lsts, List.all_cons, Bool.and_eq_true] at l
    have ih := near_keep (n := n) (show lsts r = true from l.2) h2
    simp only [keepable, ih, Bool.and_true, Bool.or_eq_true]
    rcases h1 with rfl | ⟨xs, rfl, hx⟩
    · exact .inl (beqO_refl l.1)
    · exact .inr (by simpa [belowO] using belowL_gnd hx)
theorem near_refl : ∀ (S X : Store), Near S (S ++ X)
  | [], _ => trivial
  | a :: r, X => ⟨.inl rfl, near_refl r X⟩
theorem near_set : ∀ (S : Store) (X : Store) (n : Nat) (xs : List D), gndL xs = true → Near S (setL S n xs ++ X)
  | [], _, _, _, _ => trivial
  | a :: r, X, 0, xs, h => ⟨.inr ⟨xs, rfl, h⟩, near_refl r X⟩
  | a :: r, X, n + 1, xs, h => ⟨.inl rfl, near_set r X n xs h⟩
theorem near_len : ∀ {S0 S : Store}, Near S0 S → S0.length ≤ S.length
  | [], _, _ => Nat.zero_le _
  | a :: r, [], h => h.elim
  | a :: r, b :: s, ⟨_, h⟩ => by simpa using near_len h
/-- new places fall away -/
theorem gc_near {fz : Bool} {S0 S1 X : Store} {d : D} (l : lsts S0 = true) (hn : Near S0 S1) (hl : S1.length = S0.length) (hg : gnd d = true) (hd : locOf d = none) : gc fz S0 (.rt d (S1 ++ X)) = .ok d S1 := by
  have e1 : handOut fz S0.length (S1 ++ X) d = d := by
    unfold handOut
    rw [hd]
    cases fz <;> rfl
  have hk : keepable S0 (S1 ++ X) S0.length = true := by
    have : Near S0 (S1 ++ X) := by
      clear e1 l hl
      revert S1
      induction S0 with
      | nil => intro S1 _; trivial
      | cons a r ih =>
        intro S1 h
        cases S1 with
        | nil => exact h.elim
        | cons b s => exact ⟨h.1, ih h.2⟩
    exact near_keep l this
  simp only [gc, e1, below_gnd hg, hk, Bool.and_self, if_true]
  rw [← hl, List.take_left']
  rfl
/-- a list that is handed out is frozen -/
theorem gc_hand {S0 S1 X : Store} {xs : List D} {k : Nat} (l : lsts S0 = true) (hn : Near S0 S1) (hl : S1.length = S0.length) (hk0 : S0.length ≤ k) (ha : atL (S1 ++ X) k = some xs) (hg : gndL xs = true) : gc true S0 (.rt (rf k) (S1 ++ X)) = .ok (.list xs) S1 := by
  have e1 : handOut true S0.length (S1 ++ X) (rf k) = .list xs := by
    unfold handOut
    simp [locOf, hk0, ha]
  have hk : keepable S0 (S1 ++ X) S0.length = true := by
    have : Near S0 (S1 ++ X) := by
      clear e1 l hl ha hk0
      revert S1
      induction S0 with
      | nil => intro S1 _; trivial
      | cons a r ih =>
        intro S1 h
        cases S1 with
        | nil => exact h.elim
        | cons b s => exact ⟨h.1, ih h.2⟩
    exact near_keep l this
  have hb : below S0.length (.list xs) = true := by simpa [below] using belowL_gnd hg
  simp only [gc, e1, hb, hk, Bool.and_self, if_true]
  rw [← hl, List.take_left']
  rfl
end
end DL
namespace DL
open PySem L2
section
variable {S : Store}
theorem cmp_lt_i (i j : Int) : cmpV .Lt (.int i) (.int j) S = .ok (.bool (decide (i < j))) S := by
  simp [cmpV, res, ltOk, PyData.plain, W.alike, isNone, PyData.depth, W.dataLt_int]
theorem cmp_gt_i (i j : Int) : cmpV .Gt (.int i) (.int j) S = .ok (.bool (decide (i > j))) S := by
  simp [cmpV, res, ltOk, PyData.plain, W.alike, isNone, PyData.depth, W.dataLt_int]
theorem cmp_le_i (i j : Int) : cmpV .LtE (.int i) (.int j) S = .ok (.bool (decide (i ≤ j))) S := by
  simp only [cmpV, res, ltOk, PyData.plain, W.alike, isNone, PyData.depth, W.dataLt_int, W.not_lt_int]
  rfl
theorem cmp_ge_i (i j : Int) : cmpV .GtE (.int i) (.int j) S = .ok (.bool (decide (i ≥ j))) S := by
  simp only [cmpV, res, ltOk, PyData.plain, W.alike, isNone, PyData.depth, W.dataLt_int, W.not_lt_int]
  rfl
theorem cmp_eq_i (i j : Int) : cmpV .Eq (.int i) (.int j) S = .ok (.bool (decide (i = j))) S := by
  simp only [cmpV, res, eqOk, PyData.plain, PyData.depth, PyData.eqv]
  rfl
theorem cmp_ne_i (i j : Int) : cmpV .NotEq (.int i) (.int j) S = .ok (.bool (decide (i ≠ j))) S := by
  simp only [cmpV, res, eqOk, PyData.plain, PyData.depth, PyData.eqv]
  by_cases h : i = j <;> simp [h]
theorem cmp_isN (d : D) : cmpV .Is d .none S = .ok (.bool (isNone d)) S := by
  cases d <;> simp [cmpV, isConst, beqD, isNone]
theorem cmp_notN (d : D) : cmpV .IsNot d .none S = .ok (.bool (!isNone d)) S := by
  cases d <;> simp [cmpV, isConst, beqD, isNone]
theorem any_dec {α : Type} {l : List α} {p : α → Bool} {q : Prop} [Decidable q] (h : q ↔ ∃ x ∈ l, p x = true) : l.any p = decide q := by
  by_cases c : q
  · rw [decide_eq_true c]; exact List.any_eq_true.mpr (h.mp c)
  · rw [decide_eq_false c]
    rw [List.any_eq_false]
    intro x hx e
    exact c (h.mpr ⟨x, hx, e⟩)
theorem plainAll_map {α : Type} {f : α → D} (h : ∀ a, (f a).plain = true) : ∀ l : List α, PyData.plainAll (l.map f) = true
  | [] => rfl
  | x :: l => by simp [PyData.plainAll, h x, plainAll_map h l]
/-- x in xs, xs of data that == tells apart -/
theorem cmp_in {α : Type} [BEq α] [LawfulBEq α] {f : α → D} (hp : ∀ a, (f a).plain = true) (hd : ∀ a, (f a).depth ≤ 60) (hr : ∀ a S, res S (f a) = f a) (he : ∀ a b, PyData.eqv (f a) (f b) = (a == b)) (l : List α) (x : α) {d : D} (hs : seqOf S d = some (l.map f)) :
    cmpV .In (f x) d S = .ok (.bool (decide (x ∈ l))) S := by
  have h1 : inOk (l.map f) (f x) = true := by
    simp only [inOk, plainAll_map hp, hp, Bool.true_and, decide_eq_true_eq]
    exact Nat.le_trans (Nat.min_le_right _ _) (hd x)
  simp only [cmpV, hs, hr, h1, if_true]
  have : ((l.map f).any fun y => PyData.eqv y (f x)) = decide (x ∈ l) := by
    rw [List.any_map]
    refine any_dec ⟨fun h => ⟨x, h, by simp [he]⟩, fun ⟨y, hy, e⟩ => ?_⟩
    simp only [Function.comp, he, beq_iff_eq] at e
    exact e ▸ hy
  rw [this]
theorem cmp_notin {α : Type} [BEq α] [LawfulBEq α] {f : α → D} (hp : ∀ a, (f a).plain = true) (hd : ∀ a, (f a).depth ≤ 60) (hr : ∀ a S, res S (f a) = f a) (he : ∀ a b, PyData.eqv (f a) (f b) = (a == b)) (l : List α) (x : α) {d : D} (hs : seqOf S d = some (l.map f)) :
    cmpV .NotIn (f x) d S = .ok (.bool (!decide (x ∈ l))) S := by
  have h1 : inOk (l.map f) (f x) = true := by
    simp only [inOk, plainAll_map hp, hp, Bool.true_and, decide_eq_true_eq]
    exact Nat.le_trans (Nat.min_le_right _ _) (hd x)
  simp only [cmpV, hs, hr, h1, if_true]
  have : ((l.map f).any fun y => PyData.eqv y (f x)) = decide (x ∈ l) := by
    rw [List.any_map]
    refine any_dec ⟨fun h => ⟨x, h, by simp [he]⟩, fun ⟨y, hy, e⟩ => ?_⟩
    simp only [Function.comp, he, beq_iff_eq] at e
    exact e ▸ hy
  rw [this]
theorem atI_map {α : Type} {f : α → D} {l : List α} {i : Nat} {a : α} (h : l[i]? = some a) : atI (l.map f) (i : Int) = some (f a) := by
  refine atI_nat ?_
  rw [List.getElem?_map, h]
  rfl
theorem atI0 {α : Type} (x : α) (l : List α) : atI (x :: l) 0 = some x := atI_nat (j := 0) rfl
theorem atI1 {α : Type} (x y : α) (l : List α) : atI (x :: y :: l) 1 = some y := atI_nat (j := 1) rfl
theorem atI2 {α : Type} (x y z : α) (l : List α) : atI (x :: y :: z :: l) 2 = some z := atI_nat (j := 2) rfl
theorem atI3 {α : Type} (x y z u : α) (l : List α) : atI (x :: y :: z :: u :: l) 3 = some u := atI_nat (j := 3) rfl
theorem bin_add_i (m : Bool) (i j : Int) : binV .Add m (.int i) (.int j) S = .ok (.int (i + j)) S := rfl
theorem bin_sub_i (m : Bool) (i j : Int) : binV .Sub m (.int i) (.int j) S = .ok (.int (i - j)) S := rfl
theorem bin_mul_i (m : Bool) (i j : Int) (h : small64 j = true) : binV .Mult m (.int i) (.int j) S = .ok (.int (i * j)) S := by simp [binV, h]
theorem bin_div_i (m : Bool) (i j : Int) (h : 0 < j ∧ j < 1073741824) : binV .FloorDiv m (.int i) (.int j) S = .ok (.int (i / j)) S := by simp [binV, h]
theorem bin_mod_i (m : Bool) (i j : Int) (h : 0 < j) : binV .Mod m (.int i) (.int j) S = .ok (.int (i % j)) S := by simp [binV, h]
theorem bin_add_t (m : Bool) (x y : List D) (h : (x ++ y).length ≤ sizeLine) : binV .Add m (.tuple x) (.tuple y) S = .ok (.tuple (x ++ y)) S := by simp only [binV, mkT, if_pos h]
end
theorem bindT_nm (i : Nat) (d : D) (env : DL.Env) : bindT (.nm i) d env = some (env.set i (some d)) := rfl
/-! ### loops -/
section
variable {α : Type} {enc : α → D} {g : Option Nat} {S0 : Store}
theorem still_none (S0 S : Store) : still none S0 S = true := rfl
theorem forLoop_inv {f : D → DL.Env → Store → Out} (P : List α → DL.Env → Store → Prop) (hs : ∀ l env S, P l env S → still g S0 S = true)
    (step : ∀ x r env S, P (x :: r) env S → ∃ env' S', f (enc x) env S = .nx env' S' ∧ P r env' S') : ∀ (l : List α) (env : DL.Env) (S : Store), P l env S → ∃ env' S', forLoop g S0 f (l.map enc) env S = .nx env' S' ∧ P [] env' S'
  | [], env, S, h => ⟨env, S, by simp [forLoop, hs _ _ _ h], h⟩
  | x :: r, env, S, h => by
    obtain ⟨env', S', e, h'⟩ := step x r env S h
    obtain ⟨env2, S2, e2, h2⟩ := forLoop_inv P hs step r env' S' h'
    refine ⟨env2, S2, ?_, h2⟩
    simp only [List.map_cons, forLoop, hs _ _ _ h, if_true, e]
    exact e2
/-- a comprehension whose list stands frozen at the end; the store may go on -/
theorem compLoop_inv {β : Type} {out : β → D} {f : D → Store → Res (Option D)} (P : List α → List β → Store → Prop) (hs : ∀ l acc S, P l acc S → still g S0 S = true)
    (step : ∀ x r acc S, P (x :: r) acc S → (∃ b S', f (enc x) S = .ok (some (out b)) S' ∧ P r (acc ++ [b]) S') ∨ (∃ S', f (enc x) S = .ok none S' ∧ P r acc S')) :
    ∀ (l : List α) (acc : List β) (S : Store), P l acc S → ∃ bs S', compLoop g S0 f (l.map enc) (acc.map out) S = .ok (bs.map out) S' ∧ P [] bs S'
  | [], acc, S, h => ⟨acc, S, by simp [compLoop, hs _ _ _ h], h⟩
  | x :: r, acc, S, h => by
    rcases step x r acc S h with ⟨b, S', e, h'⟩ | ⟨S', e, h'⟩
    · obtain ⟨bs, S2, e2, h2⟩ := compLoop_inv P hs step r (acc ++ [b]) S' h'
      refine ⟨bs, S2, ?_, h2⟩
      simp only [List.map_cons, compLoop, hs _ _ _ h, if_true, e, Res.bind_ok]
      rw [List.map_append] at e2
      exact e2
    · obtain ⟨bs, S2, e2, h2⟩ := compLoop_inv P hs step r acc S' h'
      refine ⟨bs, S2, ?_, h2⟩
      simp only [List.map_cons, compLoop, hs _ _ _ h, if_true, e, Res.bind_ok]
      exact e2
theorem comp_inv {β : Type} {out : β → D} {f : D → Store → Res (Option D)} {S1 : Store} (P : List α → List β → Store → Prop) (hs : ∀ l acc S, P l acc S → still g S0 S = true)
    (step : ∀ x r acc S, P (x :: r) acc S → (∃ b S', f (enc x) S = .ok (some (out b)) S' ∧ P r (acc ++ [b]) S') ∨ (∃ S', f (enc x) S = .ok none S' ∧ P r acc S'))
    (l : List α) (h : P l [] S1) (fin : ∀ bs S', P [] bs S' → bs.length ≤ sizeLine) : ∃ bs S', compEnd false g S0 f (l.map enc) S1 = .ok (.list (bs.map out)) S' ∧ P [] bs S' := by
  obtain ⟨bs, S', e, h'⟩ := compLoop_inv P hs step l [] S1 h
  refine ⟨bs, S', ?_, h'⟩
  simp only [List.map_nil] at e
  simp only [compEnd, e, Bool.false_eq_true, if_false, Res.noexc_ok, Res.bind_ok, List.length_map, if_pos (fin bs S' h')]
/-- .. where nothing of the store changes -/
theorem comp_same {f : D → Store → Res (Option D)} {v : α → Option D} {S1 : Store} (l : List α) (hs : still g S0 S1 = true) (hv : ∀ x ∈ l, f (enc x) S1 = .ok (v x) S1) (hl : l.length ≤ sizeLine) : compEnd false g S0 f (l.map enc) S1 = .ok (.list (l.filterMap v)) S1 := by
  have key : ∀ (l : List α) (acc : List D), (∀ x ∈ l, f (enc x) S1 = .ok (v x) S1) → compLoop g S0 f (l.map enc) acc S1 = .ok (acc ++ l.filterMap v) S1 := by
    intro l
    induction l with
    | nil => intro acc _; simp [compLoop, hs]
    | cons x r ih =>
      intro acc h
      simp only [List.map_cons, compLoop, hs, if_true, h x (List.mem_cons_self ..), Res.bind_ok]
      rw [ih _ fun y hy => h y (List.mem_cons_of_mem _ hy)]
      cases hx : v x with
      | none => simp [hx]
      | some y => simp [hx]
  simp only [compEnd, key l [] hv, Bool.false_eq_true, if_false, Res.noexc_ok, Res.bind_ok, List.nil_append]
  have : (l.filterMap v).length ≤ sizeLine := Nat.le_trans (List.length_filterMap_le _ _) hl
  rw [if_pos this]
theorem comp_map {f : D → Store → Res (Option D)} {v : α → D} {S1 : Store} (l : List α) (hs : still g S0 S1 = true) (hv : ∀ x ∈ l, f (enc x) S1 = .ok (some (v x)) S1) (hl : l.length ≤ sizeLine) : compEnd false g S0 f (l.map enc) S1 = .ok (.list (l.map v)) S1 := by
  rw [comp_same (v := fun x => some (v x)) l hs hv hl, List.filterMap_eq_map']
  all_goals rfl
end
section
variable {F : FS} {env : DL.Env} {S S1 S2 : Store} {its : List Ex} {vs items : List D} {g : Option Nat} {k : IK} {t : Tg}
theorem ev_comp {m : Bool} {own : List Nat} {ifs : List Ex} {x : Ex} {r : Res D} (h1 : evs F its env S = .ok vs S1) (h2 : itemsV k vs S1 = .ok (items, g) S2) (h3 : compEnd m g S2 (compF F own t ifs x env) items S2 = r) : DL.ev F (.comp m own t k its ifs x) env S = r := by
  rw [comp_eq]
  unfold evI
  rw [h1]
  simp only [Res.bind_ok, h2]
  exact h3
theorem compF_some {own : List Nat} {ifs : List Ex} {x : Ex} {y d : D} {env' : DL.Env} (h1 : bindT t y (wipeE env own) = some env') (h2 : evAll F ifs env' S = .ok true S1) (h3 : DL.ev F x env' S1 = .ok d S2) : compF F own t ifs x env y S = .ok (some d) S2 := by
  simp only [compF, h1, h2, Res.bind_ok, if_true, h3]
theorem compF_none {own : List Nat} {ifs : List Ex} {x : Ex} {y : D} {env' : DL.Env} (h1 : bindT t y (wipeE env own) = some env') (h2 : evAll F ifs env' S = .ok false S1) : compF F own t ifs x env y S = .ok none S1 := by
  simp only [compF, h1, h2, Res.bind_ok, Bool.false_eq_true, if_false]
/-- a loop's body -/
def bodyF (F : FS) (t : Tg) (b : List Sm) : D → DL.Env → Store → Out := fun x env1 S3 => match bindT t x env1 with
  | none => .bad
  | some env2 => DL.execs F b env2 S3
theorem exec_frl {b : List Sm} {o : Out} (h1 : evs F its env S = .ok vs S1) (h2 : itemsV k vs S1 = .ok (items, g) S2) (h3 : forLoop g S2 (bodyF F t b) items env S2 = o) : DL.exec F (.frl t k its b) env S = o := by
  show Res.out env (evs F its env S) _ = o
  rw [h1, Res.out_ok]
  show Res.out env (itemsV k vs S1) _ = o
  rw [h2, Res.out_ok]
  exact h3
theorem bodyF_eq {b : List Sm} {x : D} {env2 : DL.Env} {o : Out} (h1 : bindT t x env = some env2) (h2 : DL.execs F b env2 S = o) : bodyF F t b x env S = o := by
  simp only [bodyF, h1, h2]
theorem execs_cons {a : Sm} {r : List Sm} {o : Out} {env' : DL.Env} (h : DL.exec F a env S = .nx env' S1) (h2 : DL.execs F r env' S1 = o) : DL.execs F (a :: r) env S = o := by
  show (DL.exec F a env S).seq _ = o
  rw [h]
  exact h2
theorem execs_nil : DL.execs F [] env S = .nx env S := rfl
theorem ev_blt1 {b : Blt} {m : Bool} {x : Ex} {d : D} {r : Res D} (h : DL.ev F x env S = .ok d S1) (h2 : bltV b m [d] S1 = r) : DL.ev F (.blt b m [x]) env S = r := by
  show (evs F [x] env S).bind _ = r
  have : evs F [x] env S = .ok [d] S1 := by
    show (DL.ev F x env S).bind _ = _
    rw [h]
    rfl
  rw [this]
  exact h2
theorem execs_ret {x : Ex} {d : D} {l : List Sm} (h : DL.ev F x env S = .ok d S1) : DL.execs F (.ret x :: l) env S = .rt d S1 := by
  show (Res.out env (DL.ev F x env S) _).seq _ = _
  rw [h]
  rfl
theorem exec_asg {t : Tg} {x : Ex} {d : D} {env' : DL.Env} (h : DL.ev F x env S = .ok d S1) (h2 : bindT t d env = some env') : DL.exec F (.asg t x) env S = .nx env' S1 := by
  show Res.out env (DL.ev F x env S) _ = _
  rw [h, Res.out_ok, h2]
theorem evs_cons {x : Ex} {l : List Ex} {d : D} {ds : List D} (h : DL.ev F x env S = .ok d S1) (h2 : evs F l env S1 = .ok ds S2) : evs F (x :: l) env S = .ok (d :: ds) S2 := by
  show (DL.ev F x env S).bind _ = _
  rw [h, Res.bind_ok, h2]
  rfl
theorem ev_iteT {t a b : Ex} {r : Res D} (h : DL.ev F t env S = .ok (.bool true) S1) (h2 : DL.ev F a env S1 = r) : DL.ev F (.ite t a b) env S = r := by
  show (DL.ev F t env S).test _ = r
  rw [h]
  exact h2
theorem ev_iteF {t a b : Ex} {r : Res D} (h : DL.ev F t env S = .ok (.bool false) S1) (h2 : DL.ev F b env S1 = r) : DL.ev F (.ite t a b) env S = r := by
  show (DL.ev F t env S).test _ = r
  rw [h]
  exact h2
theorem ev_binR {o : Operator} {m : Bool} {a b : Ex} {x y : D} {r : Res D} (h : DL.ev F a env S = .ok x S1) (h2 : DL.ev F b env S1 = .ok y S2) (h3 : binV o m x y S2 = r) : DL.ev F (.bin o m a b) env S = r := by
  show (DL.ev F a env S).bind _ = r
  rw [h, Res.bind_ok, h2]
  exact h3
theorem ev_cmpR {o : CmpOp} {a b : Ex} {x y : D} {r : Res D} (h : DL.ev F a env S = .ok x S1) (h2 : DL.ev F b env S1 = .ok y S2) (h3 : cmpV o x y S2 = r) : DL.ev F (.cmp o a b) env S = r := by
  show (DL.ev F a env S).bind _ = r
  rw [h, Res.bind_ok, h2]
  exact h3
theorem exec_ifT {t : Ex} {a b : List Sm} {o : Out} (h : DL.ev F t env S = .ok (.bool true) S1) (h2 : DL.execs F a env S1 = o) : DL.exec F (.ifs t a b) env S = o := by
  show Res.outB env (DL.ev F t env S) _ = o
  rw [h]
  exact h2
theorem exec_ifF {t : Ex} {a b : List Sm} {o : Out} (h : DL.ev F t env S = .ok (.bool false) S1) (h2 : DL.execs F b env S1 = o) : DL.exec F (.ifs t a b) env S = o := by
  show Res.outB env (DL.ev F t env S) _ = o
  rw [h]
  exact h2
theorem execs_rt {a : Sm} {r : List Sm} {d : D} (h : DL.exec F a env S = .rt d S1) : DL.execs F (a :: r) env S = .rt d S1 := by
  show (DL.exec F a env S).seq _ = _
  rw [h]
  rfl
theorem evs_nil : evs F [] env S = .ok [] S := rfl
end
end DL

set_option linter.all false
set_option maxRecDepth 100000
/-! DL.Wp: what a run comes to, by what is wanted of it. -/
namespace DL
open PySem L2
/-- it comes to a value of which Q, or raises something of which X -/
def R {α : Type} (r : Res α) (Q : α → Store → Prop) (X : Nat → D → Store → Prop) : Prop := match r with
  | .ok a S => Q a S
  | .exc c d S => X c d S
  | .bad => False
/-- nothing is raised -/
@[reducible] def nX : Nat → D → Store → Prop := fun _ _ _ => False
section
variable {α β : Type} {Q Q' : α → Store → Prop} {Q2 : β → Store → Prop} {X X' : Nat → D → Store → Prop} {a : α} {S : Store} {r : Res α}
theorem R_ok (h : Q a S) : R (.ok a S) Q X := h
theorem R_eq (e : r = .ok a S) (h : Q a S) : R r Q X := by rw [e]; exact h
theorem R.get (h : R r Q nX) : ∃ a S, r = .ok a S ∧ Q a S := by
  cases r with
  | ok a S => exact ⟨a, S, rfl, h⟩
  | exc c d S => exact h.elim
  | bad => exact h.elim
theorem R_bind {f : α → Store → Res β} (h : R r (fun a S => R (f a S) Q2 X) X) : R (r.bind f) Q2 X := by
  cases r with
  | ok a S => exact h
  | exc c d S => exact h
  | bad => exact h
theorem R.imp (h : R r Q X) (q : ∀ a S, Q a S → Q' a S) (x : ∀ c d S, X c d S → X' c d S) : R r Q' X' := by
  cases r with
  | ok a S => exact q _ _ h
  | exc c d S => exact x _ _ _ h
  | bad => exact h
theorem R.mono (h : R r Q X) (q : ∀ a S, Q a S → Q' a S) : R r Q' X := h.imp q fun _ _ _ z => z
theorem R_any (h : R r Q nX) (q : ∀ a S, Q a S → Q' a S) : R r Q' X := h.imp q fun _ _ _ z => z.elim
end
section
variable {F : FS} {env : Env} {S : Store} {Q : D → Store → Prop} {X : Nat → D → Store → Prop} {a b c : Ex} {l : List Ex} {d : D}
theorem R_test {β : Type} {r : Res D} {f : Bool → Store → Res β} {Q2 : β → Store → Prop} (h : R r (fun d S => ∃ k, d = .bool k ∧ R (f k S) Q2 X) X) : R (r.test f) Q2 X := by
  refine R_bind (h.mono fun d S ⟨k, e, h⟩ => ?_)
  subst e
  exact h
theorem R_c (h : Q d S) : R (ev F (.c d) env S) Q X := h
theorem R_v {i : Nat} (e : env[i]? = some (some d)) (h : Q d S) : R (ev F (.v i) env S) Q X := by
  show R (match env[i]? with | some (some d) => Res.ok d S | _ => .bad) Q X
  rw [e]; exact h
theorem R_bin {o : Operator} {m : Bool} (h : R (ev F a env S) (fun x S1 => R (ev F b env S1) (fun y S2 => R (binV o m x y S2) Q X) X) X) : R (ev F (.bin o m a b) env S) Q X := R_bind (h.mono fun _ _ h => R_bind h)
theorem R_cmp {o : CmpOp} (h : R (ev F a env S) (fun x S1 => R (ev F b env S1) (fun y S2 => R (cmpV o x y S2) Q X) X) X) : R (ev F (.cmp o a b) env S) Q X := R_bind (h.mono fun _ _ h => R_bind h)
theorem R_chain {o o' : CmpOp} (h : R (ev F a env S) (fun x S1 => R (ev F b env S1) (fun y S2 => R (cmpV o x y S2) (fun d S3 => ∃ k, d = .bool k ∧ (k = true → R (ev F c env S3) (fun z S4 => R (cmpV o' y z S4) Q X) X) ∧ (k = false → Q (.bool false) S3)) X) X) X) : R (ev F (.chain o o' a b c) env S) Q X :=
  R_bind (h.mono fun _ _ h => R_bind (h.mono fun _ _ h => R_test (h.mono fun _ _ ⟨k, e, h1, h2⟩ => ⟨k, e, by
    cases k with
    | true => exact R_bind (h1 rfl)
    | false => exact h2 rfl⟩)))
theorem R_neg (h : R (ev F a env S) (fun x S1 => ∃ i, x = .int i ∧ Q (.int (-i)) S1) X) : R (ev F (.neg a) env S) Q X :=
  R_bind (h.mono fun _ _ ⟨i, e, h⟩ => by subst e; exact h)
theorem R_not (h : R (ev F a env S) (fun x S1 => ∃ k, x = .bool k ∧ Q (.bool (!k)) S1) X) : R (ev F (.not a) env S) Q X :=
  R_test (h.mono fun _ _ ⟨k, e, h⟩ => ⟨k, e, h⟩)
theorem R_and (h : R (ev F a env S) (fun x S1 => ∃ k, x = .bool k ∧ (k = true → R (ev F b env S1) Q X) ∧ (k = false → Q (.bool false) S1)) X) : R (ev F (.and a b) env S) Q X :=
  R_test (h.mono fun _ _ ⟨k, e, h1, h2⟩ => ⟨k, e, by
    cases k with
    | true => exact h1 rfl
    | false => exact h2 rfl⟩)
theorem R_or (h : R (ev F a env S) (fun x S1 => ∃ k, x = .bool k ∧ (k = true → Q (.bool true) S1) ∧ (k = false → R (ev F b env S1) Q X)) X) : R (ev F (.or a b) env S) Q X :=
  R_test (h.mono fun _ _ ⟨k, e, h1, h2⟩ => ⟨k, e, by
    cases k with
    | true => exact h1 rfl
    | false => exact h2 rfl⟩)
theorem R_ite (h : R (ev F a env S) (fun x S1 => ∃ k, x = .bool k ∧ (k = true → R (ev F b env S1) Q X) ∧ (k = false → R (ev F c env S1) Q X)) X) : R (ev F (.ite a b c) env S) Q X :=
  R_test (h.mono fun _ _ ⟨k, e, h1, h2⟩ => ⟨k, e, by
    cases k with
    | true => exact h1 rfl
    | false => exact h2 rfl⟩)
theorem R_nil {Q : List D → Store → Prop} (h : Q [] S) : R (evs F [] env S) Q X := h
theorem R_cons {Q : List D → Store → Prop} (h : R (ev F a env S) (fun x S1 => R (evs F l env S1) (fun xs S2 => Q (x :: xs) S2) X) X) : R (evs F (a :: l) env S) Q X := R_bind (h.mono fun _ _ h => R_bind h)
theorem R_tup (h : R (evs F l env S) (fun xs S1 => xs.length ≤ 1000 ∧ Q (.tuple xs) S1) X) : R (ev F (.tup l) env S) Q X :=
  R_bind (h.mono fun xs S ⟨h1, h⟩ => by
    have : xs.length ≤ sizeLine := by rw [sizeLine_eq]; omega
    simp only [mkT, if_pos this]; exact h)
theorem R_lstF (h : R (evs F l env S) (fun xs S1 => xs.length ≤ 1000 ∧ Q (.list xs) S1) X) : R (ev F (.lst false l) env S) Q X :=
  R_bind (h.mono fun xs S ⟨h1, h⟩ => by
    have : xs.length ≤ sizeLine := by rw [sizeLine_eq]; omega
    simp only [mkL, if_pos this]; exact h)
theorem R_lstT (h : R (evs F l env S) (fun xs S1 => xs.length ≤ 1000 ∧ Q (rf S1.length) (S1 ++ [.lst xs])) X) : R (ev F (.lst true l) env S) Q X :=
  R_bind (h.mono fun xs S ⟨h1, h⟩ => by
    have : xs.length ≤ sizeLine := by rw [sizeLine_eq]; omega
    simp only [mkL, if_pos this]; exact h)
theorem R_sub (h : R (ev F a env S) (fun x S1 => R (ev F b env S1) (fun y S2 => R (subV x y S2) Q X) X) X) : R (ev F (.sub a b) env S) Q X := R_bind (h.mono fun _ _ h => R_bind h)
theorem R_kd {kvs : List (Str × D)} (h : R (ev F a env S) (fun x S1 => R (kdV kvs x S1) Q X) X) : R (ev F (.kd kvs a) env S) Q X := R_bind h
theorem R_call {f : Nat} {dd : List D} (h : R (evs F l env S) (fun xs S1 => R (F f (xs ++ dd) S1) Q X) X) : R (ev F (.call f l dd) env S) Q X := R_bind h
theorem R_blt {k : Blt} {m : Bool} (h : R (evs F l env S) (fun xs S1 => R (bltV k m xs S1) Q X) X) : R (ev F (.blt k m l) env S) Q X := R_bind h
theorem R_mth {k : Mth} (h : R (ev F a env S) (fun x S1 => (lstOf S1 x).isSome = true ∧ R (evs F l env S1) (fun xs S2 => R (mthV k x xs S2) Q X) X) X) : R (ev F (.mth k a l) env S) Q X :=
  R_bind (h.mono fun x S1 ⟨h1, h⟩ => by
    obtain ⟨ys, e⟩ := Option.isSome_iff_exists.mp h1
    simp only [e]
    exact R_bind h)
theorem R_slc {m : Bool} {lo hi : Ex} (h : R (ev F a env S) (fun x S1 => R (Res.bnd (isAbs lo) (ev F lo env S1)) (fun y S2 => R (Res.bnd (isAbs hi) (ev F hi env S2)) (fun z S3 => R (slcV m x y z S3) Q X) X) X) X) : R (ev F (.slc m a lo hi) env S) Q X :=
  R_bind (h.mono fun _ _ h => R_bind (h.mono fun _ _ h => R_bind h))
theorem R_bnd0 {Q : Option Int → Store → Prop} (h : Q none S) : R (Res.bnd (isAbs (.c .none)) (ev F (.c .none) env S)) Q X := h
theorem R_bnd1 {Q : Option Int → Store → Prop} {ab : Bool} (h : R (ev F a env S) (fun x S1 => ∃ i, x = .int i ∧ Q (some i) S1) X) : R (Res.bnd ab (ev F a env S)) Q X :=
  R_bind (h.mono fun _ _ ⟨i, e, h⟩ => by subst e; exact h)
theorem R_heard {told : Str} {sl : Nat} {yes : List Nat} {hs : List HS} (h : R (ev F a env S) (fun d S1 => Q (.tuple [.str told, d]) S1) (fun c d S1 => c ∈ yes ∧ ∃ z, hrun c d hs (List.replicate sl none) = some (.rt z) ∧ Q z S1)) : R (ev F (.heard told sl yes hs a) env S) Q X := by
  show R (heardV told sl yes hs (ev F a env S)) Q X
  cases e : ev F a env S with
  | ok d S1 => rw [e] at h; exact h
  | exc c d S1 =>
    rw [e] at h
    obtain ⟨h1, z, h2, h3⟩ := h
    have : yes.contains c = true := by simpa using h1
    simp only [heardV, this, if_true, h2]
    exact h3
  | bad => rw [e] at h; exact h.elim
/-- what a comprehension's turn comes to -/
def CI (F : FS) (own : List Nat) (t : Tg) (ifs : List Ex) (x : Ex) (env : Env) (y : D) (S : Store) (Q : Option D → Store → Prop) : Prop :=
  ∃ env', bindT t y (wipeE env own) = some env' ∧ R (evAll F ifs env' S) (fun k S1 => (k = true → R (ev F x env' S1) (fun d S2 => Q (some d) S2) nX) ∧ (k = false → Q none S1)) nX
theorem R_all0 {Q : Bool → Store → Prop} (h : Q true S) : R (evAll F [] env S) Q X := h
theorem R_all1 {Q : Bool → Store → Prop} (h : R (ev F a env S) (fun d S1 => ∃ k, d = .bool k ∧ Q k S1) X) : R (evAll F [a] env S) Q X := by
  refine R_test (h.mono fun _ _ ⟨k, e, h⟩ => ⟨k, e, ?_⟩)
  cases k with
  | true => exact h
  | false => exact h
theorem CI.get {own : List Nat} {t : Tg} {ifs : List Ex} {x : Ex} {y : D} {Q : Option D → Store → Prop} (h : CI F own t ifs x env y S Q) : ∃ o S', compF F own t ifs x env y S = .ok o S' ∧ Q o S' := by
  obtain ⟨env', e1, h⟩ := h
  obtain ⟨k, S1, e2, h1, h2⟩ := h.get
  cases k with
  | true =>
    obtain ⟨d, S2, e3, q⟩ := (h1 rfl).get
    exact ⟨some d, S2, compF_some e1 e2 e3, q⟩
  | false => exact ⟨none, S1, compF_none e1 e2, h2 rfl⟩
/-- a comprehension that changes nothing -/
theorem R_comp {α : Type} {own : List Nat} {t : Tg} {k : IK} {its ifs : List Ex} {x : Ex} (enc : α → D) (v : α → Option D)
    (h : R (evs F its env S) (fun vs S1 => ∃ (l : List α) (g : Option Nat), itemsV k vs S1 = .ok (l.map enc, g) S1 ∧ l.length ≤ 100000 ∧ still g S1 S1 = true ∧ (∀ y ∈ l, CI F own t ifs x env (enc y) S1 (fun o S2 => o = v y ∧ S2 = S1)) ∧ Q (.list (l.filterMap v)) S1) X) : R (ev F (.comp false own t k its ifs x) env S) Q X := by
  rw [comp_eq]
  unfold evI
  refine R_bind (R_bind (R_bind (h.mono fun vs S1 ⟨l, g, e1, hl, hs, hv, q⟩ => ?_)))
  rw [e1]
  refine R_ok (R_ok ?_)
  have := comp_same (enc := enc) (g := g) (S0 := S1) (S1 := S1) (f := compF F own t ifs x env) (v := v) l hs (fun y hy => by
    obtain ⟨o, S', e, rfl, rfl⟩ := (hv y hy).get
    exact e) (by rw [sizeLine_eq]; omega)
  exact R_eq this q
/-- .. each of whose turns goes on; the list stands frozen -/
theorem R_compI {α β : Type} {own : List Nat} {t : Tg} {k : IK} {its ifs : List Ex} {x : Ex} (enc : α → D) (out : β → D) (P : List α → List β → Store → Prop)
    (h : R (evs F its env S) (fun vs S1 => ∃ (l : List α) (g : Option Nat), itemsV k vs S1 = .ok (l.map enc, g) S1 ∧ P l [] S1 ∧ (∀ l acc S, P l acc S → still g S1 S = true) ∧
      (∀ y r acc S2, P (y :: r) acc S2 → CI F own t ifs x env (enc y) S2 (fun o S3 => match o with
        | some d => ∃ b, d = out b ∧ P r (acc ++ [b]) S3
        | none => P r acc S3)) ∧ ∀ bs S2, P [] bs S2 → bs.length ≤ 100000 ∧ Q (.list (bs.map out)) S2) X) : R (ev F (.comp false own t k its ifs x) env S) Q X := by
  rw [comp_eq]
  unfold evI
  refine R_bind (R_bind (R_bind (h.mono fun vs S1 ⟨l, g, e1, hp, hs, hv, q⟩ => ?_)))
  rw [e1]
  refine R_ok (R_ok ?_)
  obtain ⟨bs, S', e, hP⟩ := comp_inv (enc := enc) (out := out) (g := g) (S0 := S1) (f := compF F own t ifs x env) P hs (fun y r acc S2 hh => by
    obtain ⟨o, S3, e3, q3⟩ := (hv y r acc S2 hh).get
    cases o with
    | some d =>
      obtain ⟨b, rfl, q3⟩ := q3
      exact .inl ⟨b, S3, e3, q3⟩
    | none => exact .inr ⟨S3, e3, q3⟩) l hp (fun bs S' hh => by rw [sizeLine_eq]; have := (q bs S' hh).1; omega)
  exact R_eq e (q bs S' hP).2
end
/-! ### statements -/
structure Ps where
  nx : Env → Store → Prop
  rt : D → Store → Prop
  bk : Env → Store → Prop := fun _ _ => False
  ct : Env → Store → Prop := fun _ _ => False
  ex : Nat → D → Store → Prop := nX
def W (o : Out) (P : Ps) : Prop := match o with
  | .nx e S => P.nx e S
  | .rt d S => P.rt d S
  | .bk e S => P.bk e S
  | .ct e S => P.ct e S
  | .exc c d _ S => P.ex c d S
  | .bad => False
section
variable {F : FS} {env : Env} {S : Store} {P : Ps} {a b : Ex} {la lb : List Sm} {s : Sm} {t : Tg}
theorem W_out {α : Type} {r : Res α} {f : α → Store → Out} (h : R r (fun a S => W (f a S) P) P.ex) : W (Res.out env r f) P := by
  cases r with
  | ok a S => exact h
  | exc c d S => exact h
  | bad => exact h
theorem W_nil (h : P.nx env S) : W (execs F [] env S) P := h
theorem W_cons (h : W (exec F s env S) ⟨fun e S' => W (execs F la e S') P, P.rt, P.bk, P.ct, P.ex⟩) : W (execs F (s :: la) env S) P := by
  show W ((exec F s env S).seq _) P
  cases e : exec F s env S with
  | nx env' S' => rw [e] at h; exact h
  | rt d S' => rw [e] at h; exact h
  | bk env' S' => rw [e] at h; exact h
  | ct env' S' => rw [e] at h; exact h
  | exc c d env' S' => rw [e] at h; exact h
  | bad => rw [e] at h; exact h
theorem W_asg (h : R (ev F a env S) (fun d S1 => ∃ env', bindT t d env = some env' ∧ P.nx env' S1) P.ex) : W (exec F (.asg t a) env S) P :=
  W_out (h.mono fun d S1 ⟨env', e, h⟩ => by rw [e]; exact h)
theorem W_ifs (h : R (ev F a env S) (fun d S1 => ∃ k, d = .bool k ∧ (k = true → W (execs F la env S1) P) ∧ (k = false → W (execs F lb env S1) P)) P.ex) : W (exec F (.ifs a la lb) env S) P :=
  W_out (h.mono fun d S1 ⟨k, e, h1, h2⟩ => by
    subst e
    cases k with
    | true => exact h1 rfl
    | false => exact h2 rfl)
theorem W_ret (h : R (ev F a env S) P.rt P.ex) : W (exec F (.ret a) env S) P := W_out h
theorem W_exp (h : R (ev F a env S) (fun _ S1 => P.nx env S1) P.ex) : W (exec F (.exp a) env S) P := W_out h
theorem W_pass (h : P.nx env S) : W (exec F .pass env S) P := h
theorem W_brk (h : P.bk env S) : W (exec F .brk env S) P := h
theorem W_cont (h : P.ct env S) : W (exec F .cont env S) P := h
theorem W_raise {c : Nat} (h : R (ev F a env S) (fun d S1 => P.ex c d S1) P.ex) : W (exec F (.raise c a) env S) P := W_out h
theorem W_aug {i : Nat} {op : Operator} {x : D} (e : env[i]? = some (some x)) (h : R (ev F a env S) (fun y S1 => R (augV op x y S1) (fun z S2 => P.nx (env.set i (some z)) S2) P.ex) P.ex) : W (exec F (.aug i op a) env S) P := by
  show W (match env[i]? with | some (some x) => _ | _ => .bad) P
  rw [e]
  exact W_out (h.mono fun _ _ h => W_out h)
theorem W_setS {o i : Ex} (h : R (ev F a env S) (fun d S1 => R (ev F o env S1) (fun x S2 => R (ev F i env S2) (fun y S3 => ∃ S4, setItemV x y d S3 = some S4 ∧ P.nx env S4) P.ex) P.ex) P.ex) : W (exec F (.setS o i a) env S) P :=
  W_out (h.mono fun _ _ h => W_out (h.mono fun _ _ h => W_out (h.mono fun _ _ ⟨S4, e, h⟩ => by rw [e]; exact h)))
theorem W_tryC {yes no : List Nat} {d : D} (h : W (execs F la env S) ⟨P.nx, P.rt, P.bk, P.ct, fun c v S1 => (c ∈ yes ∧ P.rt d S1) ∨ (c ∉ yes ∧ c ∈ no ∧ P.ex c v S1)⟩) : W (exec F (.tryC la yes no (.rc d)) env S) P := by
  show W (match execs F la env S with | .exc c d' env' S' => if yes.contains c then execH F (.rc d) env' S' else if no.contains c then .exc c d' env' S' else .bad | o => o) P
  cases e : execs F la env S with
  | nx env' S' => rw [e] at h; exact h
  | rt d S' => rw [e] at h; exact h
  | bk env' S' => rw [e] at h; exact h
  | ct env' S' => rw [e] at h; exact h
  | bad => rw [e] at h; exact h
  | exc c v env' S' =>
    rw [e] at h
    rcases h with ⟨h1, h2⟩ | ⟨h1, h2, h3⟩
    · have : yes.contains c = true := by simpa using h1
      simp only [this, if_true]
      exact h2
    · have : yes.contains c = false := by simpa using h1
      have h4 : no.contains c = true := by simpa using h2
      simp only [this, h4, if_true, Bool.false_eq_true, if_false]
      exact h3
/-- a for loop, by what stands ahead of each turn -/
theorem W_frl {α : Type} {k : IK} {its : List Ex} (enc : α → D) (I : List α → Env → Store → Prop)
    (h : R (evs F its env S) (fun vs S1 => ∃ (l : List α) (g : Option Nat), itemsV k vs S1 = .ok (l.map enc, g) S1 ∧ I l env S1 ∧ (∀ l env S, I l env S → still g S1 S = true) ∧
      (∀ y r env S2, I (y :: r) env S2 → ∃ env', bindT t (enc y) env = some env' ∧ W (execs F la env' S2) ⟨I r, P.rt, P.nx, I r, P.ex⟩) ∧ ∀ env S2, I [] env S2 → P.nx env S2) P.ex) : W (exec F (.frl t k its la) env S) P := by
  refine W_out (h.mono fun vs S1 ⟨l, g, e1, hI, hs, hb, hq⟩ => ?_)
  rw [e1]
  show W (forLoop g S1 (bodyF F t la) (l.map enc) env S1) P
  have key : ∀ (l : List α) (env : Env) (S : Store), I l env S → W (forLoop g S1 (bodyF F t la) (l.map enc) env S) P := by
    intro l
    induction l with
    | nil =>
      intro env S hI
      show W (if still g S1 S then Out.nx env S else .bad) P
      rw [if_pos (hs _ _ _ hI)]
      exact hq _ _ hI
    | cons y r ih =>
      intro env S hI
      obtain ⟨env', e, hw⟩ := hb y r env S hI
      show W (if still g S1 S then (match bodyF F t la (enc y) env S with
        | .nx env' S' => forLoop g S1 (bodyF F t la) (r.map enc) env' S'
        | .ct env' S' => forLoop g S1 (bodyF F t la) (r.map enc) env' S'
        | .bk env' S' => .nx env' S'
        | o => o) else .bad) P
      rw [if_pos (hs _ _ _ hI)]
      have eb : bodyF F t la (enc y) env S = execs F la env' S := by simp only [bodyF, e]
      rw [eb]
      cases eo : execs F la env' S with
      | nx e2 S2 => rw [eo] at hw; exact ih _ _ hw
      | ct e2 S2 => rw [eo] at hw; exact ih _ _ hw
      | bk e2 S2 => rw [eo] at hw; exact hw
      | rt d S2 => rw [eo] at hw; exact hw
      | exc c d e2 S2 => rw [eo] at hw; exact hw
      | bad => rw [eo] at hw; exact hw.elim
  exact key l env S1 hI
theorem W.imp {o : Out} {P' : Ps} (h : W o P) (h1 : ∀ e S, P.nx e S → P'.nx e S) (h2 : ∀ d S, P.rt d S → P'.rt d S) (h3 : ∀ e S, P.bk e S → P'.bk e S) (h4 : ∀ e S, P.ct e S → P'.ct e S) (h5 : ∀ c d S, P.ex c d S → P'.ex c d S) : W o P' := by
  cases o with
  | nx e S => exact h1 _ _ h
  | rt d S => exact h2 _ _ h
  | bk e S => exact h3 _ _ h
  | ct e S => exact h4 _ _ h
  | exc c d e S => exact h5 _ _ _ h
  | bad => exact h
/-- a while loop -/
theorem W_whl (I : Nat → Env → Store → Prop) (n : Nat) (hn : n < whlMost) (hI : I n env S)
    (h : ∀ m env S, I m env S → R (ev F a env S) (fun d S1 => ∃ k, d = .bool k ∧ (k = true → W (execs F la env S1) ⟨fun e S2 => ∃ m', m' < m ∧ I m' e S2, P.rt, P.nx, fun e S2 => ∃ m', m' < m ∧ I m' e S2, P.ex⟩) ∧ (k = false → P.nx env S1)) P.ex) : W (exec F (.whl a la) env S) P := by
  have key : ∀ (N m : Nat) (env : Env) (S : Store), m < N → I m env S → W (whlLoop (ev F a) (execs F la) N env S) P := by
    intro N
    induction N with
    | zero => intro m env S hm; exact absurd hm (Nat.not_lt_zero _)
    | succ N ih =>
      intro m env S hm hI
      refine W_out ((h m env S hI).mono fun d S1 ⟨k, e, k1, k2⟩ => ?_)
      subst e
      cases k with
      | false => exact k2 rfl
      | true =>
        have hw := k1 rfl
        show W (if true = true then (match execs F la env S1 with
          | .nx env' S' => whlLoop (ev F a) (execs F la) N env' S'
          | .ct env' S' => whlLoop (ev F a) (execs F la) N env' S'
          | .bk env' S' => .nx env' S'
          | o => o) else _) P
        rw [if_pos rfl]
        cases eo : execs F la env S1 with
        | nx e2 S2 =>
          rw [eo] at hw
          obtain ⟨m', hm', hI'⟩ := hw
          exact ih m' _ _ (by omega) hI'
        | ct e2 S2 =>
          rw [eo] at hw
          obtain ⟨m', hm', hI'⟩ := hw
          exact ih m' _ _ (by omega) hI'
        | bk e2 S2 => rw [eo] at hw; exact hw
        | rt d S2 => rw [eo] at hw; exact hw
        | exc c d e2 S2 => rw [eo] at hw; exact hw
        | bad => rw [eo] at hw; exact hw.elim
  exact key whlMost n env S hn hI
end
end DL

set_option linter.all false
set_option maxRecDepth 100000
/-! DL.Draw: a box that is drawn from, lists of a def's own, tactics. -/
namespace DL
open PySem L2
/-- the box at k holds two ints, all else is as in S -/
def Bx (S : Store) (k : Nat) (S' : Store) : Prop := k < S.length ∧ ∃ a b : Int, S' = setL S k [.int a, .int b]
section
variable {S S' S0 S1 S2 Y : Store} {n k L c : Nat}
theorem Bx.at_ (H : Bx S k S') : ∃ a b : Int, atL S' k = some [.int a, .int b] := by
  obtain ⟨hk, a, b, rfl⟩ := H
  exact ⟨a, b, by simp [atL, setL, hk]⟩
theorem Bx.len (H : Bx S k S') : S'.length = S.length := by
  obtain ⟨hk, a, b, rfl⟩ := H
  simp [setL]
theorem Bx.set (H : Bx S k S') (a b : Int) : Bx S k (setL S' k [.int a, .int b]) := by
  obtain ⟨hk, a', b', rfl⟩ := H
  exact ⟨hk, a, b, by simp [setL]⟩
theorem Bx.trans {S'' : Store} (H : Bx S k S') (H' : Bx S' k S'') : Bx S k S'' := by
  obtain ⟨_, a, b, rfl⟩ := H'
  exact H.set a b
theorem Bx.of {a b : Int} (h : atL S k = some [.int a, .int b]) : Bx S k S := by
  have hk : k < S.length := by
    unfold atL at h
    cases hs : S[k]? with
    | none => rw [hs] at h; cases h
    | some o => exact (List.getElem?_eq_some_iff.mp hs).1
  refine ⟨hk, a, b, ?_⟩
  unfold atL at h
  unfold setL
  refine List.ext_getElem? fun i => ?_
  rw [List.getElem?_set]
  split
  · rename_i e
    subst e
    cases hs : S[k]? with
    | none => rw [hs] at h; cases h
    | some o =>
      rw [hs] at h
      cases o with
      | lst xs =>
        simp only [Option.some.injEq] at h
        rw [h]
      | _ => cases h
  · rfl
theorem Bx.self (H : Bx S k S') : Bx S' k S' := by
  obtain ⟨a, b, h⟩ := H.at_
  exact Bx.of h
theorem lsts_setL {xs : List D} (h : lsts S = true) : lsts (setL S k xs) = true := by
  unfold lsts setL at *
  rw [List.all_eq_true] at *
  intro x hx
  rcases List.mem_or_eq_of_mem_set hx with q | q
  · exact h x q
  · rw [q]
theorem Bx.lsts (H : Bx S k S') (h : DL.lsts S = true) : DL.lsts S' = true := by
  obtain ⟨hk, a, b, rfl⟩ := H
  exact lsts_setL h
theorem lsts_add (h1 : lsts S = true) (h2 : lsts Y = true) : lsts (S ++ Y) = true := by
  unfold lsts at *
  rw [List.all_append, h1, h2]
  rfl
theorem Bx.add (H : Bx S k S') (Y : Store) : Bx (S' ++ Y) k (S' ++ Y) := by
  obtain ⟨a, b, hab⟩ := H.at_
  have hk : k < S'.length := by rw [H.len]; exact H.1
  refine Bx.of (a := a) (b := b) ?_
  unfold atL at hab ⊢
  rw [List.getElem?_append_left hk]
  exact hab
theorem Bx.split (H : Bx S k S') (H2 : Bx (S' ++ Y) k S2) : ∃ S1, S2 = S1 ++ Y ∧ Bx S k S1 := by
  have hk : k < S'.length := by rw [H.len]; exact H.1
  obtain ⟨_, a, b, rfl⟩ := H2
  exact ⟨setL S' k [.int a, .int b], by unfold setL; rw [List.set_append_left _ _ hk], H.set a b⟩
/-- what a def leaves behind, its own lists gone -/
theorem Bx.gc {fz : Bool} {d : D} (H : Bx S k S') (h : DL.lsts S = true) (X : Store) (hg : gnd d = true) (hd : locOf d = none) : DL.gc fz S (.rt d (S' ++ X)) = .ok d S' := by
  have hl := H.len
  obtain ⟨hk, a, b, rfl⟩ := H
  refine gc_near h ?_ hl hg hd
  have := near_set S [] k [.int a, .int b] rfl
  simpa using this
theorem Bx.gcL {c : Nat} {xs : List D} (H : Bx S k S') (h : DL.lsts S = true) (X : Store) (hx : atL X c = some xs) (hg : gndL xs = true) : DL.gc true S (.rt (rf (S.length + c)) (S' ++ X)) = .ok (.list xs) S' := by
  have hl := H.len
  have hat : atL (S' ++ X) (S.length + c) = some xs := by
    unfold atL at hx ⊢
    rw [List.getElem?_append_right (by omega), show S.length + c - S'.length = c by omega]
    exact hx
  obtain ⟨hk, a, b, rfl⟩ := H
  refine gc_hand h ?_ hl (by omega) hat hg
  have := near_set S [] k [.int a, .int b] rfl
  simpa using this
theorem gc_pure {fz : Bool} {d : D} (h : DL.lsts S = true) (X : Store) (hg : gnd d = true) (hd : locOf d = none) : DL.gc fz S (.rt d (S ++ X)) = .ok d S :=
  gc_near h (by have := near_refl S []; simpa using this) rfl hg hd
theorem gc_pureL {c : Nat} {xs : List D} (h : DL.lsts S = true) (X : Store) (hx : atL X c = some xs) (hg : gndL xs = true) : DL.gc true S (.rt (rf (S.length + c)) (S ++ X)) = .ok (.list xs) S := by
  have hat : atL (S ++ X) (S.length + c) = some xs := by
    unfold atL at hx ⊢
    rw [List.getElem?_append_right (by omega), show S.length + c - S.length = c by omega]
    exact hx
  exact gc_hand h (by have := near_refl S []; simpa using this) rfl (by omega) hat hg
/-! ### lists of a def's own -/
theorem loc_rf (k : Nat) : locOf (rf k) = some k := by simp [locOf]
theorem atL_loc (hl : S1.length = L) : atL (S1 ++ Y) (L + c) = atL Y c := by
  unfold atL
  rw [List.getElem?_append_right (by omega), show L + c - S1.length = c by omega]
theorem setL_loc {xs : List D} (hl : S1.length = L) : setL (S1 ++ Y) (L + c) xs = S1 ++ setL Y c xs := by
  unfold setL
  rw [List.set_append_right _ _ (by omega), show L + c - S1.length = c by omega]
theorem seq_loc {xs : List D} (hl : S1.length = L) (e : atL Y c = some xs) : seqOf (S1 ++ Y) (rf (L + c)) = some xs := by
  show atL (S1 ++ Y) ((L + c : Nat) : Int).toNat = _
  rw [Int.toNat_natCast, atL_loc hl, e]
theorem lst_loc {xs : List D} (hl : S1.length = L) (e : atL Y c = some xs) : lstOf (S1 ++ Y) (rf (L + c)) = some xs := by
  show atL (S1 ++ Y) ((L + c : Nat) : Int).toNat = _
  rw [Int.toNat_natCast, atL_loc hl, e]
theorem lstM_loc {xs : List D} (hl : S1.length = L) (e : atL Y c = some xs) : lstOfM (S1 ++ Y) (rf (L + c)) = some xs := by
  show atL (S1 ++ Y) ((L + c : Nat) : Int).toNat = _
  rw [Int.toNat_natCast, atL_loc hl, e]
theorem onL_loc {f : Nat → List D → List D → Store → Res D} {xs vs : List D} (hl : S1.length = L) (e : atL Y c = some xs) : onL f (rf (L + c)) vs (S1 ++ Y) = f (L + c) xs vs (S1 ++ Y) := by
  simp only [onL, loc_rf, atL_loc hl, e]
theorem set_loc {xs : List D} {i j : Nat} {v : D} (hl : S1.length = L) (e : atL Y c = some xs) (hi : i < xs.length) : setItemV (rf (L + c)) (.int (i : Int)) v (S1 ++ Y) = some (S1 ++ setL Y c (xs.set i v)) := by
  have hx : ixN xs.length (i : Int) = some i := by
    unfold ixN
    rw [if_pos (by omega), if_pos (by omega)]
    simp
  simp only [setItemV, loc_rf, atL_loc hl, e, Option.bind_some, hx, Option.map_some, setL_loc hl]
variable {Q : D → Store → Prop} {X : Nat → D → Store → Prop}
theorem R_newL {F : FS} {l : List Ex} {env : Env} {c : Nat} (hl : S1.length = L) (hc : Y.length = c) (h : R (evs F l env (S1 ++ Y)) (fun xs S2 => S2 = S1 ++ Y ∧ xs.length ≤ 1000 ∧ Q (rf (L + c)) (S1 ++ (Y ++ [.lst xs]))) X) : R (ev F (.lst true l) env (S1 ++ Y)) Q X := by
  refine R_lstT (h.mono fun xs S2 ⟨e, h1, h2⟩ => ⟨h1, ?_⟩)
  subst e
  have : (S1 ++ Y).length = L + c := by simp [hl, hc]
  rw [this, List.append_assoc]
  exact h2
theorem R_append {xs : List D} {v : D} (hl : S1.length = L) (e : atL Y c = some xs) (z : xs.length ≤ 100000) (h : Q .none (S1 ++ setL Y c (xs ++ [v]))) : R (mthV .append (rf (L + c)) [v] (S1 ++ Y)) Q X := by
  show R (onL appendV (rf (L + c)) [v] (S1 ++ Y)) Q X
  rw [onL_loc hl e]
  have z' : xs.length < sizeLine := by rw [sizeLine_eq]; omega
  simp only [appendV, if_pos z', setL_loc hl]
  exact h
theorem R_popAt {xs : List D} {i : Nat} {v : D} (hl : S1.length = L) (e : atL Y c = some xs) (hv : xs[i]? = some v) (h : Q v (S1 ++ setL Y c (xs.eraseIdx i))) : R (mthV .popAt (rf (L + c)) [.int (i : Int)] (S1 ++ Y)) Q X := by
  show R (onL popAtV (rf (L + c)) [.int (i : Int)] (S1 ++ Y)) Q X
  rw [onL_loc hl e]
  have hi : i < xs.length := (List.getElem?_eq_some_iff.mp hv).1
  have hx : ixN xs.length (i : Int) = some i := by
    unfold ixN
    rw [if_pos (by omega), if_pos (by omega)]
    simp
  simp only [popAtV, hx, hv, setL_loc hl]
  exact h
theorem R_subL {xs : List D} {i : Nat} {v : D} (hl : S1.length = L) (e : atL Y c = some xs) (hv : xs[i]? = some v) (h : Q v (S1 ++ Y)) : R (subV (rf (L + c)) (.int (i : Int)) (S1 ++ Y)) Q X := by
  simp only [subV, seq_loc hl e, atI_nat hv]
  exact h
theorem R_lenL {m : Bool} {xs : List D} (hl : S1.length = L) (e : atL Y c = some xs) (h : Q (.int (xs.length : Int)) (S1 ++ Y)) : R (bltV .len m [rf (L + c)] (S1 ++ Y)) Q X := by
  show R (lenV [rf (L + c)] (S1 ++ Y)) Q X
  simp only [lenV, seq_loc hl e]
  exact h
theorem R_tupleL {m : Bool} {xs : List D} (hl : S1.length = L) (e : atL Y c = some xs) (h : Q (.tuple xs) (S1 ++ Y)) : R (bltV .tuple m [rf (L + c)] (S1 ++ Y)) Q X := by
  show R (tupleV [rf (L + c)] (S1 ++ Y)) Q X
  simp only [tupleV, seq_loc hl e]
  exact h
/-! ### data as they stand -/
theorem R_subD {d v : D} {xs : List D} {i : Nat} {S : Store} (hs : seqOf S d = some xs) (hv : xs[i]? = some v) (h : Q v S) : R (subV d (.int (i : Int)) S) Q X := by
  simp only [subV, hs, atI_nat hv]
  exact h
theorem R_len {m : Bool} {d : D} {xs : List D} {S : Store} (hs : seqOf S d = some xs) (h : Q (.int (xs.length : Int)) S) : R (bltV .len m [d] S) Q X := by
  show R (lenV [d] S) Q X
  simp only [lenV, hs]
  exact h
theorem R_tuple {m : Bool} {d : D} {xs : List D} {S : Store} (hs : seqOf S d = some xs) (h : Q (.tuple xs) S) : R (bltV .tuple m [d] S) Q X := by
  show R (tupleV [d] S) Q X
  simp only [tupleV, hs]
  exact h
theorem R_listF {d : D} {xs : List D} {S : Store} (hs : seqOf S d = some xs) (hz : xs.length ≤ 100000) (h : Q (.list xs) S) : R (bltV .list false [d] S) Q X := by
  show R (listV false [d] S) Q X
  have z : xs.length ≤ sizeLine := by rw [sizeLine_eq]; omega
  simp only [listV, hs, mkL, if_pos z]
  exact h
theorem R_listT {d : D} {xs : List D} {c : Nat} (hl : S1.length = L) (hc : Y.length = c) (hs : seqOf (S1 ++ Y) d = some xs) (hz : xs.length ≤ 100000) (h : Q (rf (L + c)) (S1 ++ (Y ++ [.lst xs]))) : R (bltV .list true [d] (S1 ++ Y)) Q X := by
  show R (listV true [d] (S1 ++ Y)) Q X
  have z : xs.length ≤ sizeLine := by rw [sizeLine_eq]; omega
  have : (S1 ++ Y).length = L + c := by simp [hl, hc]
  simp only [listV, hs, mkL, if_pos z, if_true, this, List.append_assoc]
  exact h
theorem R_addI {m : Bool} {i j : Int} {S : Store} (h : Q (.int (i + j)) S) : R (binV .Add m (.int i) (.int j) S) Q X := h
theorem R_subI {m : Bool} {i j : Int} {S : Store} (h : Q (.int (i - j)) S) : R (binV .Sub m (.int i) (.int j) S) Q X := h
theorem R_addN {m : Bool} {i j : Nat} {S : Store} (h : Q (.int ((i + j : Nat) : Int)) S) : R (binV .Add m (.int (i : Int)) (.int (j : Int)) S) Q X := by
  refine R_addI ?_
  rwa [← Int.natCast_add]
theorem R_addT {m : Bool} {x y : List D} {S : Store} (hz : x.length + y.length ≤ 100000) (h : Q (.tuple (x ++ y)) S) : R (binV .Add m (.tuple x) (.tuple y) S) Q X :=
  R_eq (bin_add_t m x y (by rw [sizeLine_eq, List.length_append]; omega)) h
theorem R_addL {a b : D} {x y : List D} {S : Store} (h1 : lstOfM S a = some x) (h2 : lstOfM S b = some y) (hz : x.length + y.length ≤ 100000) (h : Q (.list (x ++ y)) S) : R (binV .Add false a b S) Q X := by
  have z : (x ++ y).length ≤ sizeLine := by rw [sizeLine_eq, List.length_append]; omega
  have e : binV .Add false a b S = mkL false (x ++ y) S := by
    unfold binV
    split <;> simp_all
    all_goals simp [lstOfM] at h1
  rw [e]
  simp only [mkL, if_pos z]
  exact h
theorem R_ltI {i j : Int} {S : Store} (h : Q (.bool (decide (i < j))) S) : R (cmpV .Lt (.int i) (.int j) S) Q X := R_eq (cmp_lt_i i j) h
theorem R_gtI {i j : Int} {S : Store} (h : Q (.bool (decide (i > j))) S) : R (cmpV .Gt (.int i) (.int j) S) Q X := R_eq (cmp_gt_i i j) h
theorem R_leI {i j : Int} {S : Store} (h : Q (.bool (decide (i ≤ j))) S) : R (cmpV .LtE (.int i) (.int j) S) Q X := R_eq (cmp_le_i i j) h
theorem R_geI {i j : Int} {S : Store} (h : Q (.bool (decide (i ≥ j))) S) : R (cmpV .GtE (.int i) (.int j) S) Q X := R_eq (cmp_ge_i i j) h
theorem R_eqI {i j : Int} {S : Store} (h : Q (.bool (decide (i = j))) S) : R (cmpV .Eq (.int i) (.int j) S) Q X := R_eq (cmp_eq_i i j) h
theorem R_neI {i j : Int} {S : Store} (h : Q (.bool (decide (i ≠ j))) S) : R (cmpV .NotEq (.int i) (.int j) S) Q X := R_eq (cmp_ne_i i j) h
theorem R_isN {d : D} {S : Store} (h : Q (.bool (isNone d)) S) : R (cmpV .Is d .none S) Q X := R_eq (cmp_isN d) h
theorem R_notN {d : D} {S : Store} (h : Q (.bool (!isNone d)) S) : R (cmpV .IsNot d .none S) Q X := R_eq (cmp_notN d) h
/-! ### defs that draw -/
/-- a def that draws from the box at k, and comes to something of which P -/
def Drw (k : Nat) (f : Store → Res D) (P : D → Prop) : Prop := ∀ S, Bx S k S → lsts S = true → ∃ d S', f S = .ok d S' ∧ Bx S k S' ∧ P d
theorem R_drw {f : Store → Res D} {P : D → Prop} (hd : Drw k f P) (H : Bx S0 k S1) (h0 : lsts S0 = true) (hY : lsts Y = true) (h : ∀ d S2, P d → Bx S0 k S2 → Q d (S2 ++ Y)) : R (f (S1 ++ Y)) Q X := by
  obtain ⟨d, S', e, HB, p⟩ := hd (S1 ++ Y) (H.add Y) (lsts_add (H.lsts h0) hY)
  obtain ⟨S2, rfl, H2⟩ := H.split HB
  rw [e]
  exact h d S2 p H2
theorem R_drw0 {f : Store → Res D} {P : D → Prop} (hd : Drw k f P) (H : Bx S0 k S1) (h0 : lsts S0 = true) (h : ∀ d S2, P d → Bx S0 k S2 → Q d S2) : R (f S1) Q X := by
  obtain ⟨d, S', e, HB, p⟩ := hd S1 H.self (H.lsts h0)
  rw [e]
  exact h d S' p (H.trans HB)
/-- what a drawing def's return must be -/
def RtB (S : Store) (k : Nat) (P : D → Prop) : D → Store → Prop := fun d S' => ∃ S1 Y, S' = S1 ++ Y ∧ Bx S k S1 ∧ ((locOf d = none ∧ gnd d = true ∧ P d) ∨ ∃ c xs, d = rf (S.length + c) ∧ atL Y c = some xs ∧ gndL xs = true ∧ P (.list xs))
theorem Drw.of {f : Store → Res D} {P : D → Prop} {F : FS} {b : List Sm} {env : Env} (hf : ∀ S, f S = DL.gc true S (execs F b env S)) (h : ∀ S, Bx S k S → lsts S = true → W (execs F b env (S ++ [])) ⟨fun _ _ => False, RtB S k P, fun _ _ => False, fun _ _ => False, nX⟩) : Drw k f P := by
  intro S H hS
  have hw := h S H hS
  rw [List.append_nil] at hw
  rw [hf]
  cases e : execs F b env S with
  | nx e2 S2 => rw [e] at hw; exact hw.elim
  | bk e2 S2 => rw [e] at hw; exact hw.elim
  | ct e2 S2 => rw [e] at hw; exact hw.elim
  | exc c d e2 S2 => rw [e] at hw; exact hw.elim
  | bad => rw [e] at hw; exact hw.elim
  | rt d S' =>
    rw [e] at hw
    obtain ⟨S1, Y, rfl, HB, ⟨h1, h2, h3⟩ | ⟨c, xs, rfl, h1, h2, h3⟩⟩ := hw
    · exact ⟨d, S1, HB.gc hS Y h2 h1, HB, h3⟩
    · exact ⟨.list xs, S1, HB.gcL hS Y h1 h2, HB, h3⟩
/-- a def that changes nothing -/
def RtP (S : Store) (d0 : D) : D → Store → Prop := fun d S' => ∃ Y, S' = S ++ Y ∧ ((locOf d = none ∧ gnd d = true ∧ d = d0) ∨ ∃ c xs, d = rf (S.length + c) ∧ atL Y c = some xs ∧ gndL xs = true ∧ .list xs = d0)
theorem pure_of {f : Store → Res D} {d0 : D} {F : FS} {b : List Sm} {env : Env} (hf : ∀ S, f S = DL.gc true S (execs F b env S)) (hS : lsts S = true) (h : W (execs F b env (S ++ [])) ⟨fun _ _ => False, RtP S d0, fun _ _ => False, fun _ _ => False, nX⟩) : f S = .ok d0 S := by
  rw [List.append_nil] at h
  rw [hf]
  cases e : execs F b env S with
  | nx e2 S2 => rw [e] at h; exact h.elim
  | bk e2 S2 => rw [e] at h; exact h.elim
  | ct e2 S2 => rw [e] at h; exact h.elim
  | exc c d e2 S2 => rw [e] at h; exact h.elim
  | bad => rw [e] at h; exact h.elim
  | rt d S' =>
    rw [e] at h
    obtain ⟨Y, rfl, ⟨h1, h2, rfl⟩ | ⟨c, xs, rfl, h1, h2, rfl⟩⟩ := h
    · exact gc_pure hS Y h2 h1
    · exact gc_pureL hS Y h1 h2
/-- .. whose frame lays nothing: of any store -/
theorem pure_same {f : Store → Res D} {d0 : D} {F : FS} {b : List Sm} {env : Env} {fz : Bool} (hf : ∀ S, f S = DL.gc fz S (execs F b env S)) (h : W (execs F b env S) ⟨fun e S' => d0 = .none ∧ S' = S, fun d S' => d = d0 ∧ S' = S, fun _ _ => False, fun _ _ => False, nX⟩) : f S = .ok d0 S := by
  rw [hf]
  cases e : execs F b env S with
  | nx e2 S2 =>
    rw [e] at h
    obtain ⟨rfl, rfl⟩ := h
    simp only [DL.gc, List.take_length, ite_self]
  | bk e2 S2 => rw [e] at h; exact h.elim
  | ct e2 S2 => rw [e] at h; exact h.elim
  | exc c d e2 S2 => rw [e] at h; exact h.elim
  | bad => rw [e] at h; exact h.elim
  | rt d S' =>
    rw [e] at h
    obtain ⟨rfl, rfl⟩ := h
    exact gc_same _ _ _
end
/-! ### tactics -/
end DL
local macro_rules | `(tactic| fail "wside") => `(tactic| first | assumption | omega | rfl | (simp; done) | (simp; omega))
namespace DL
open PySem L2
end DL
local macro_rules | `(tactic| fail "wprim") => `(tactic| (with_reducible refine DL.R_ltI ?_))
namespace DL
open PySem L2
end DL
local macro_rules | `(tactic| fail "wprim") => `(tactic| (with_reducible refine DL.R_gtI ?_))
namespace DL
open PySem L2
end DL
local macro_rules | `(tactic| fail "wprim") => `(tactic| (with_reducible refine DL.R_leI ?_))
namespace DL
open PySem L2
end DL
local macro_rules | `(tactic| fail "wprim") => `(tactic| (with_reducible refine DL.R_geI ?_))
namespace DL
open PySem L2
end DL
local macro_rules | `(tactic| fail "wprim") => `(tactic| (with_reducible refine DL.R_eqI ?_))
namespace DL
open PySem L2
end DL
local macro_rules | `(tactic| fail "wprim") => `(tactic| (with_reducible refine DL.R_neI ?_))
namespace DL
open PySem L2
end DL
local macro_rules | `(tactic| fail "wprim") => `(tactic| (with_reducible refine DL.R_isN ?_))
namespace DL
open PySem L2
end DL
local macro_rules | `(tactic| fail "wprim") => `(tactic| (with_reducible refine DL.R_notN ?_))
namespace DL
open PySem L2
end DL
local macro_rules | `(tactic| fail "wprim") => `(tactic| (with_reducible refine DL.R_subI ?_))
namespace DL
open PySem L2
end DL
local macro_rules | `(tactic| fail "wprim") => `(tactic| (with_reducible refine DL.R_addI ?_))
namespace DL
open PySem L2
end DL
local macro_rules | `(tactic| fail "w1") => `(tactic| first
  | (with_reducible refine DL.W_cons ?_)
  | (with_reducible refine DL.W_asg ?_)
  | (with_reducible refine DL.W_ret ?_)
  | (with_reducible refine DL.W_exp ?_)
  | (with_reducible refine DL.W_ifs ?_)
  | (with_reducible refine DL.W_setS ?_)
  | (with_reducible refine DL.W_nil ?_)
  | (with_reducible refine DL.W_pass ?_)
  | (with_reducible refine DL.W_brk ?_)
  | (with_reducible refine DL.W_cont ?_)
  | (with_reducible refine DL.W_raise ?_)
  | (with_reducible refine DL.W_tryC ?_)
  | (with_reducible refine DL.W_aug ?_ ?_; rfl)
  | (with_reducible refine DL.R_c ?_)
  | (with_reducible refine DL.R_v ?_ ?_; rfl)
  | (with_reducible refine DL.R_bin ?_)
  | (with_reducible refine DL.R_cmp ?_)
  | (with_reducible refine DL.R_sub ?_)
  | (with_reducible refine DL.R_call ?_)
  | (with_reducible refine DL.R_blt ?_)
  | (with_reducible refine DL.R_cons ?_)
  | (with_reducible refine DL.R_nil ?_)
  | (with_reducible refine DL.R_tup ?_)
  | (with_reducible refine DL.R_lstF ?_)
  | (with_reducible refine DL.R_not ?_)
  | (with_reducible refine DL.R_and ?_)
  | (with_reducible refine DL.R_or ?_)
  | (with_reducible refine DL.R_ite ?_)
  | (with_reducible refine DL.R_neg ?_)
  | (with_reducible refine DL.R_mth ?_)
  | (with_reducible refine DL.R_chain ?_)
  | (with_reducible refine DL.R_slc ?_)
  | (with_reducible refine DL.R_bnd0 ?_)
  | (with_reducible refine DL.R_all0 ?_)
  | (with_reducible refine DL.R_all1 ?_)
  | fail "wprim")
namespace DL
open PySem L2
end DL
local macro_rules | `(tactic| fail "wgo") => `(tactic| repeat fail "w1")
namespace DL
open PySem L2
end DL

set_option linter.all false
set_option maxRecDepth 100000
/-! Hs.E: houses, stands, guests as data; the stuck lot. -/
namespace Hs
open PySem DL L2
abbrev G := Nat × Option Nat
def nI : Option Nat → Int
  | none => -1
  | some s => (s : Int)
theorem nI_inj : ∀ {a b : Option Nat}, nI a = nI b ↔ a = b
  | none, none => by simp
  | none, some b => by simp [nI]
  | some a, none => by simp [nI]
  | some a, some b => by simp only [nI, Option.some.injEq]; omega
@[reducible] def nD (n : Nat) : D := .int (n : Int)
@[reducible] def oD (o : Option Nat) : D := .int (nI o)
def gD (g : G) : D := .tuple [.int (g.1 : Int), .int (nI g.2)]
def gsD (l : List G) : D := .tuple (l.map gD)
abbrev Stand := List (List G)
def standD (s : Stand) : D := .tuple (s.map gsD)
abbrev Stg := Nat × List (Option Nat)
def stgD (s : Stg) : D := .tuple [.int (s.1 : Int), .tuple (s.2.map oD)]
def bookD (b : List Stg) : D := .tuple (b.map stgD)
def seatsD (l : List Nat) : D := .tuple (l.map nD)
structure H where
  seats : List Nat
  stages : List Stg
def hD (h : H) : D := .tuple [seatsD h.seats, bookD h.stages]
theorem nI_out {o : Option Nat} : nI o = -1 ↔ o = none := by
  cases o with
  | none => simp [nI]
  | some s => simp [nI]
theorem nI_ge {o : Option Nat} : 0 ≤ nI o ↔ o ≠ none := by
  cases o with
  | none => simp [nI]
  | some s => simp [nI]
def stg (h : H) (s : Nat) : Stg := h.stages.getD s (0, [])
def plc (h : H) (s : Nat) : Nat := (stg h s).1
def nxs (h : H) (s : Nat) : List (Option Nat) := (stg h s).2
def seat (h : H) (p : Nat) : Nat := h.seats.getD p 0
def at_ (st : Stand) (p : Nat) : List G := st.getD p []
theorem getD_get {α : Type} {l : List α} {i : Nat} {d : α} (e : i < l.length) : l[i]? = some (l.getD i d) := by
  rw [List.getD_eq_getElem?_getD, List.getElem?_eq_getElem e]; rfl
theorem get_stg {h : H} {s : Nat} (e : s < h.stages.length) : h.stages[s]? = some (stg h s) := getD_get e
theorem get_seat {h : H} {p : Nat} (e : p < h.seats.length) : h.seats[p]? = some (seat h p) := getD_get e
theorem get_at {st : Stand} {p : Nat} (e : p < st.length) : st[p]? = some (at_ st p) := getD_get e
theorem map_get {α : Type} {f : α → D} {l : List α} {i : Nat} {a : α} (h : l[i]? = some a) : (l.map f)[i]? = some (f a) := by
  rw [List.getElem?_map, h]; rfl
section
variable {Q : D → Store → Prop} {X : Nat → D → Store → Prop} {S : Store}
theorem R_sub0 {d x : D} {r : List D} (hs : seqOf S d = some (x :: r)) (h : Q x S) : R (subV d (.int 0) S) Q X := by
  simp only [subV, hs, atI0]; exact h
theorem R_sub1 {d x y : D} {r : List D} (hs : seqOf S d = some (x :: y :: r)) (h : Q y S) : R (subV d (.int 1) S) Q X := by
  simp only [subV, hs, atI1]; exact h
theorem R_sub2 {d x y z : D} {r : List D} (hs : seqOf S d = some (x :: y :: z :: r)) (h : Q z S) : R (subV d (.int 2) S) Q X := by
  simp only [subV, hs, atI2]; exact h
theorem R_map {α : Type} {f : α → D} {l : List α} {i : Nat} {a : α} {d : D} (hs : seqOf S d = some (l.map f)) (hi : l[i]? = some a) (h : Q (f a) S) : R (subV d (.int (i : Int)) S) Q X := R_subD hs (map_get hi) h
theorem R_stg {h : H} {s : Nat} (e : s < h.stages.length) (q : Q (stgD (stg h s)) S) : R (subV (bookD h.stages) (.int (s : Int)) S) Q X := R_map (f := stgD) rfl (get_stg e) q
theorem R_seat {h : H} {p : Nat} (e : p < h.seats.length) (q : Q (.int (seat h p : Int)) S) : R (subV (seatsD h.seats) (.int (p : Int)) S) Q X := R_map (f := nD) rfl (get_seat e) q
theorem R_at {st : Stand} {p : Nat} (e : p < st.length) (q : Q (gsD (at_ st p)) S) : R (subV (standD st) (.int (p : Int)) S) Q X := R_map (f := gsD) rfl (get_at e) q
theorem R_lenMap {α : Type} {f : α → D} {m : Bool} {l : List α} {d : D} (hs : seqOf S d = some (l.map f)) (q : Q (.int (l.length : Int)) S) : R (bltV .len m [d] S) Q X := R_len hs (by rw [List.length_map]; exact q)
theorem R_lenG {m : Bool} {l : List G} (q : Q (.int (l.length : Int)) S) : R (bltV .len m [gsD l] S) Q X := R_lenMap (f := gD) rfl q
theorem R_lenSt {m : Bool} {l : Stand} (q : Q (.int (l.length : Int)) S) : R (bltV .len m [standD l] S) Q X := R_lenMap (f := gsD) rfl q
theorem R_lenBk {m : Bool} {l : List Stg} (q : Q (.int (l.length : Int)) S) : R (bltV .len m [bookD l] S) Q X := R_lenMap (f := stgD) rfl q
theorem R_lenSe {m : Bool} {l : List Nat} (q : Q (.int (l.length : Int)) S) : R (bltV .len m [seatsD l] S) Q X := R_lenMap (f := nD) rfl q
/-! ### in -/
theorem nD_eqv (a b : Nat) : PyData.eqv (nD a) (nD b) = (a == b) := by
  show ((a : Int) == (b : Int)) = _
  by_cases h : a = b
  · subst h; rw [beq_self_eq_true, beq_self_eq_true]
  · have : ¬ (a : Int) = (b : Int) := by omega
    rw [beq_eq_false_iff_ne.mpr this, beq_eq_false_iff_ne.mpr h]
theorem oD_eqv (a b : Option Nat) : PyData.eqv (oD a) (oD b) = (a == b) := by
  show (nI a == nI b) = _
  by_cases h : a = b
  · subst h; rw [beq_self_eq_true, beq_self_eq_true]
  · have : ¬ nI a = nI b := fun e => h (nI_inj.mp e)
    rw [beq_eq_false_iff_ne.mpr this, beq_eq_false_iff_ne.mpr h]
theorem R_inN {X' : List Nat} {q : Nat} {d : D} (hs : seqOf S d = some (X'.map nD)) (h : Q (.bool (decide (q ∈ X'))) S) : R (cmpV .In (.int (q : Int)) d S) Q X :=
  R_eq (cmp_in (f := nD) (fun _ => rfl) (fun _ => by simp [nD, PyData.depth]) (fun _ _ => rfl) nD_eqv X' q hs) h
theorem R_notinN {X' : List Nat} {q : Nat} {d : D} (hs : seqOf S d = some (X'.map nD)) (h : Q (.bool (!decide (q ∈ X'))) S) : R (cmpV .NotIn (.int (q : Int)) d S) Q X :=
  R_eq (cmp_notin (f := nD) (fun _ => rfl) (fun _ => by simp [nD, PyData.depth]) (fun _ _ => rfl) nD_eqv X' q hs) h
theorem R_inO {X' : List (Option Nat)} {q : Option Nat} {d : D} (hs : seqOf S d = some (X'.map oD)) (h : Q (.bool (decide (q ∈ X'))) S) : R (cmpV .In (.int (nI q)) d S) Q X :=
  R_eq (cmp_in (f := oD) (fun _ => rfl) (fun _ => by simp [oD, PyData.depth]) (fun _ _ => rfl) oD_eqv X' q hs) h
theorem R_notinO {X' : List (Option Nat)} {q : Option Nat} {d : D} (hs : seqOf S d = some (X'.map oD)) (h : Q (.bool (!decide (q ∈ X'))) S) : R (cmpV .NotIn (.int (nI q)) d S) Q X :=
  R_eq (cmp_notin (f := oD) (fun _ => rfl) (fun _ => by simp [oD, PyData.depth]) (fun _ _ => rfl) oD_eqv X' q hs) h
end
/-! ### sorting guests -/
def gle (p q : G) : Bool := decide ((p.1 : Int) < (q.1 : Int) ∨ ((p.1 : Int) = (q.1 : Int) ∧ nI p.2 ≤ nI q.2))
def gsort (l : List G) : List G := l.mergeSort gle
theorem gle_data (p q : G) : gle p q = W.dataLe false id (gD p) (gD q) := by
  have h := congrFun (congrFun (W.dataLe_ii (fun g : G => (g.1 : Int)) (fun g : G => nI g.2)) p) q
  exact h.symm
theorem gsort_D (l : List G) : sortD (l.map gD) = (gsort l).map gD := by
  unfold sortD gsort
  exact (List.map_mergeSort (f := gD) (r := gle) (s := W.dataLe false id) (fun a _ b _ => gle_data a b)).symm
theorem gle_trans (a b c : G) (h1 : gle a b = true) (h2 : gle b c = true) : gle a c = true := by
  simp only [gle, decide_eq_true_eq] at *
  omega
theorem gle_total (a b : G) : (gle a b || gle b a) = true := by
  simp only [gle, Bool.or_eq_true, decide_eq_true_eq]
  omega
theorem gle_anti {a b : G} (h1 : gle a b = true) (h2 : gle b a = true) : a = b := by
  simp only [gle, decide_eq_true_eq] at *
  obtain ⟨a1, a2⟩ := a
  obtain ⟨b1, b2⟩ := b
  simp only at h1 h2
  have e1 : a1 = b1 := by omega
  have e2 : nI a2 = nI b2 := by omega
  rw [e1, nI_inj.mp e2]
theorem gsort_perm (l : List G) : (gsort l).Perm l := List.mergeSort_perm l gle
theorem gsort_pw (l : List G) : (gsort l).Pairwise fun a b => gle a b = true := List.pairwise_mergeSort gle_trans gle_total l
theorem gsort_congr {l k : List G} (h : l.Perm k) : gsort l = gsort k :=
  List.Perm.eq_of_pairwise (fun a b _ _ => gle_anti) (gsort_pw l) (gsort_pw k) ((gsort_perm l).trans (h.trans (gsort_perm k).symm))
theorem gsort_idem (l : List G) : gsort (gsort l) = gsort l := gsort_congr (gsort_perm l)
theorem gsort_len (l : List G) : (gsort l).length = l.length := (gsort_perm l).length_eq
theorem gsort_mem {l : List G} {g : G} : g ∈ gsort l ↔ g ∈ l := (gsort_perm l).mem_iff
theorem gD_plain (g : G) : (gD g).plain = true := rfl
theorem gD_depth (g : G) : (gD g).depth ≤ 60 := by simp [gD, PyData.depth, PyData.depthAll]
theorem sortOk_g (l : List G) : sortOk (l.map gD) = true := by
  unfold sortOk
  simp only [plainAll_map gD_plain, Bool.true_and, Bool.and_eq_true, Bool.or_eq_true]
  refine ⟨⟨?_, .inl ?_⟩, ?_⟩
  · simp only [alikeB, List.all_map, List.all_eq_true, Function.comp]
    intro a _ b _
    rfl
  · simp only [List.all_map, List.all_eq_true, Function.comp]
    intro a _
    rfl
  · simp only [List.all_map, List.all_eq_true, Function.comp, decide_eq_true_eq]
    intro a _
    exact gD_depth a
theorem R_sortG {Q : D → Store → Prop} {X : Nat → D → Store → Prop} {S : Store} {l : List G} {d : D} (hs : seqOf S d = some (l.map gD)) (hz : l.length ≤ 100000) (h : Q (.list ((gsort l).map gD)) S) : R (bltV .sorted false [d] S) Q X := by
  show R (sortedV false [d] S) Q X
  have z : (gsort l).length ≤ sizeLine := by rw [gsort_len, sizeLine_eq]; omega
  simp only [sortedV, hs, sortOk_g, if_true, gsort_D, mkL, List.length_map, if_pos z]
  exact h
theorem gnd_gD (g : G) : gnd (gD g) = true := rfl
theorem gndL_map {α : Type} {f : α → D} (h : ∀ a, gnd (f a) = true) (l : List α) : gndL (l.map f) = true := gndL_iff.mpr fun x hx => by
  obtain ⟨a, _, rfl⟩ := List.mem_map.mp hx
  exact h a
theorem gnd_map {α : Type} {f : α → D} (h : ∀ a, gnd (f a) = true) (l : List α) : gnd (.tuple (l.map f)) = true := gndL_map h l
theorem gnd_gsD (l : List G) : gnd (gsD l) = true := gndL_map gnd_gD l
theorem gnd_stD (st : Stand) : gnd (standD st) = true := gndL_map gnd_gsD st
theorem gnd_nD (n : Nat) : gnd (nD n) = true := rfl
theorem gnd_oD (n : Option Nat) : gnd (oD n) = true := rfl
theorem gnd_stgD (s : Stg) : gnd (stgD s) = true := by
  show gndL [_, _] = true
  simp [gndL, gnd, gndL_map gnd_oD]
theorem gnd_book (b : List Stg) : gnd (bookD b) = true := gndL_map gnd_stgD b
theorem gnd_hD (h : H) : gnd (hD h) = true := by
  show gndL [_, _] = true
  simp [gndL, gnd, gnd_book, seatsD, gndL_map gnd_nD]
/-! ### the stuck lot -/
/-- where a guest wants to go -/
def wnt (h : H) (g : G) : Option Nat := g.2.map (plc h)
def isFull (h : H) (st : Stand) (p : Nat) : Bool := decide ((at_ st p).length = seat h p)
def fulls (h : H) (st : Stand) : List Nat := (List.range st.length).filter (isFull h st)
/-- does each guest of a place want a place of the lot? -/
def holds (h : H) (st : Stand) (X : List Nat) (p : Nat) : Bool := (at_ st p).all fun g => match wnt h g with
  | none => false
  | some q => decide (q ∈ X)
def nar (h : H) (st : Stand) (X : List Nat) : List Nat := X.filter (holds h st X)
def gf (h : H) (st : Stand) : Nat → List Nat → List Nat
  | 0, X => X
  | n + 1, X => if nar h st X = X then X else gf h st n (nar h st X)
def Stk (h : H) (st : Stand) : List Nat := gf h st (st.length + 1) (fulls h st)
section
variable {h : H} {st : Stand}
theorem nar_len (X : List Nat) : (nar h st X).length ≤ X.length := List.length_filter_le _ _
theorem nar_lt {X : List Nat} (hn : nar h st X ≠ X) : (nar h st X).length < X.length := by
  rcases Nat.lt_or_eq_of_le (nar_len (h := h) (st := st) X) with q | q
  · exact q
  · exact absurd (List.filter_sublist.eq_of_length q) hn
theorem fulls_len : (fulls h st).length ≤ st.length := by
  unfold fulls
  have := List.length_filter_le (isFull h st) (List.range st.length)
  rwa [List.length_range] at this
theorem gf_more : ∀ (n m : Nat) (X : List Nat), X.length < n → X.length < m → gf h st n X = gf h st m X
  | 0, _, X, h1, _ => absurd h1 (Nat.not_lt_zero _)
  | _ + 1, 0, X, _, h2 => absurd h2 (Nat.not_lt_zero _)
  | n + 1, m + 1, X, h1, h2 => by
    unfold gf
    split
    · rfl
    · rename_i c
      have := nar_lt c
      exact gf_more n m _ (by omega) (by omega)
theorem gf_step {n : Nat} {X : List Nat} (hn : X.length < n) : gf h st n (nar h st X) = gf h st n X := by
  cases n with
  | zero => exact absurd hn (Nat.not_lt_zero _)
  | succ n =>
    rw [show gf h st (n + 1) X = if nar h st X = X then X else gf h st n (nar h st X) from rfl]
    split
    · rename_i c
      rw [c, gf, if_pos c]
    · rename_i c
      have := nar_lt c
      exact gf_more _ _ _ (by omega) (by omega)
theorem gf_end {n : Nat} {X : List Nat} (c : nar h st X = X) : gf h st n X = X := by
  cases n with
  | zero => rfl
  | succ n => rw [gf, if_pos c]
theorem gf_sub : ∀ (n : Nat) (X : List Nat), ∀ p ∈ gf h st n X, p ∈ X
  | 0, X, p, hp => hp
  | n + 1, X, p, hp => by
    unfold gf at hp
    split at hp
    · exact hp
    · exact (List.mem_filter.mp (gf_sub n _ p hp)).1
theorem gf_len : ∀ (n : Nat) (X : List Nat), (gf h st n X).length ≤ X.length
  | 0, X => Nat.le_refl _
  | n + 1, X => by
    unfold gf
    split
    · exact Nat.le_refl _
    · exact Nat.le_trans (gf_len n _) (nar_len X)
theorem Stk_len : (Stk h st).length ≤ st.length := Nat.le_trans (gf_len _ _) fulls_len
end
end Hs

set_option linter.all false
set_option maxRecDepth 100000
namespace Lw
open PySem DL
/-- wanted_place: 0 house 1 guest -/
def b_wanted_place : List Sm := [
  .ret (.ite (.cmp .Eq (.sub (.v 1) (.c (.int 1))) (.c (.int (-1)))) (.c (.none)) (.sub (.sub (.sub (.v 0) (.c (.int 1))) (.sub (.v 1) (.c (.int 1)))) (.c (.int 0))))]
def f_wanted_place : Fn := ⟨2, 2, b_wanted_place, true⟩
/-- has_room: 0 house 1 stand 2 place -/
def b_has_room : List Sm := [
  .ret (.cmp .Lt (.blt .len false [(.sub (.v 1) (.v 2))]) (.sub (.sub (.v 0) (.c (.int 0))) (.v 2)))]
def f_has_room : Fn := ⟨3, 3, b_has_room, true⟩
/-- are_held: 0 house 1 stand 2 place 3 lot 4 guest -/
def b_are_held : List Sm := [
  .ret (.blt .all false [(.comp false [4] (.nm 4) .val [(.sub (.v 1) (.v 2))] [] (.cmp .In (.call 0 [(.v 0), (.v 4)] []) (.v 3)))])]
def f_are_held : Fn := ⟨5, 4, b_are_held, true⟩
/-- stuck_lot: 0 house 1 stand 2 lot 3 later 4 place -/
def b_stuck_lot : List Sm := [
  .asg (.tup [(.nm 2), (.nm 3)]) (.tup [(.c (.none)), (.comp false [4] (.nm 4) .rng1 [(.blt .len false [(.v 1)])] [(.not (.call 1 [(.v 0), (.v 1), (.v 4)] []))] (.v 4))]),
  .whl (.cmp .NotEq (.v 3) (.v 2)) [
    .asg (.nm 2) (.v 3),
    .asg (.nm 3) (.comp false [4] (.nm 4) .val [(.v 2)] [(.call 2 [(.v 0), (.v 1), (.v 4), (.v 2)] [])] (.v 4))],
  .ret (.blt .tuple false [(.v 2)])]
def f_stuck_lot : Fn := ⟨5, 2, b_stuck_lot, true⟩
/-- turned_guest: 0 stages 1 turned 2 place 3 guest 4 stage 5 after 6 later 7 spot 8 nexts -/
def b_turned_guest : List Sm := [
  .asg (.tup [(.nm 4), (.nm 5)]) (.v 3),
  .asg (.nm 6) (.ite (.cmp .Eq (.v 5) (.c (.int (-1)))) (.c (.int (-1))) (.sub (.v 1) (.v 5))),
  .ifs (.or (.cmp .Is (.sub (.v 1) (.v 4)) (.c (.none))) (.cmp .Is (.v 6) (.c (.none)))) [
    .ret (.c (.none))] [],
  .asg (.tup [(.nm 7), (.nm 8)]) (.sub (.v 0) (.sub (.v 1) (.v 4))),
  .ret (.ite (.and (.cmp .Eq (.v 7) (.v 2)) (.cmp .In (.v 6) (.v 8))) (.tup [(.sub (.v 1) (.v 4)), (.v 6)]) (.c (.none)))]
def f_turned_guest : Fn := ⟨9, 4, b_turned_guest, true⟩
/-- changed_stand: 0 house 1 stand 2 stages 3 turned 4 rows 5 place 6 guests 7 row 8 guest -/
def b_changed_stand : List Sm := [
  .asg (.nm 4) (.lst true []),
  .frl (.tup [(.nm 5), (.nm 6)]) .enum [(.v 1)] [
    .asg (.nm 7) (.comp false [8] (.nm 8) .val [(.v 6)] [] (.call 4 [(.v 2), (.v 3), (.v 5), (.v 8)] [])),
    .ifs (.cmp .In (.c (.none)) (.v 7)) [
      .raise 0 (.v 5)] [],
    .exp (.mth .append (.v 4) [(.blt .tuple false [(.blt .sorted false [(.v 7)])])])],
  .ret (.blt .tuple false [(.v 4)])]
def f_changed_stand : Fn := ⟨9, 4, b_changed_stand, true⟩
/-- may_change: 0 house 1 stand 2 stages 3 turned 4 later -/
def b_may_change : List Sm := [
  .tryC [
    .asg (.nm 4) (.call 5 [(.v 0), (.v 1), (.v 2), (.v 3)] [])] [0] [] (.rc (.bool false)),
  .ret (.cmp .Eq (.blt .len false [(.call 3 [(.tup [(.sub (.v 0) (.c (.int 0))), (.v 2)]), (.v 4)] [])]) (.c (.int 0)))]
def f_may_change : Fn := ⟨5, 4, b_may_change, true⟩
/-- _law_box: 0 script 1 k 2 cell 3 great -/
def b__law_box : List Sm := [
  .asg (.nm 2) (.bin .Add false (.bin .Mult false (.c (.int 7919)) (.v 1)) (.c (.int 4129))),
  .ifs (.cmp .Lt (.v 1) (.blt .len false [(.v 0)])) [
    .asg (.nm 2) (.blt .abs false [(.blt .int false [(.sub (.v 0) (.v 1))])])] [
    .ifs (.cmp .Gt (.blt .len false [(.v 0)]) (.c (.int 0))) [
      .asg (.nm 2) (.bin .Add false (.v 2) (.bin .Mult false (.bin .Mod false (.blt .int false [(.blt .abs false [(.blt .int false [(.sub (.v 0) (.bin .Mod false (.blt .int false [(.v 1)]) (.blt .len false [(.v 0)])))])])]) (.c (.int 2147483563))) (.c (.int 61027))))] []],
  .asg (.nm 3) (.ite (.cmp .GtE (.v 2) (.bin .Pow false (.c (.int 10)) (.c (.int 18)))) (.v 2) (.c (.int 0))),
  .ret (.lst true [(.v 3), (.bin .Add false (.bin .Mod false (.blt .int false [(.bin .Add false (.bin .Mult false (.bin .Mod false (.blt .int false [(.v 2)]) (.c (.int 2147483563))) (.c (.int 40231))) (.bin .Mult false (.c (.int 4129)) (.v 1)))]) (.c (.int 2147483563))) (.c (.int 1)))])]
def f__law_box : Fn := ⟨4, 2, b__law_box, false⟩
/-- _law_take: 0 box 1 many 2 digit 3 raw -/
def b__law_take : List Sm := [
  .ifs (.cmp .Gt (.sub (.v 0) (.c (.int 0))) (.c (.int 0))) [
    .asg (.nm 2) (.bin .Mod false (.blt .int false [(.sub (.v 0) (.c (.int 0)))]) (.v 1)),
    .setS (.v 0) (.c (.int 0)) (.bin .FloorDiv false (.sub (.v 0) (.c (.int 0))) (.v 1)),
    .ret (.v 2)] [],
  .asg (.nm 3) (.bin .Mod false (.blt .int false [(.bin .Add false (.bin .Mult false (.sub (.v 0) (.c (.int 1))) (.c (.int 39373))) (.c (.int 809)))]) (.c (.int 2147483647))),
  .setS (.v 0) (.c (.int 1)) (.bin .Add false (.bin .Mod false (.blt .int false [(.bin .Add false (.bin .Mult false (.v 3) (.c (.int 40692))) (.c (.int 29)))]) (.c (.int 2147483399))) (.c (.int 1))),
  .ret (.bin .Mod false (.blt .int false [(.bin .FloorDiv false (.bin .Add false (.bin .Mult false (.v 3) (.c (.int 2147483629))) (.sub (.v 0) (.c (.int 1)))) (.c (.int 8209)))]) (.v 1))]
def f__law_take : Fn := ⟨4, 2, b__law_take, true⟩
/-- _law_pick: 0 box 1 some -/
def b__law_pick : List Sm := [
  .ret (.sub (.v 1) (.call 8 [(.v 0), (.blt .len false [(.v 1)])] []))]
def f__law_pick : Fn := ⟨2, 2, b__law_pick, true⟩
/-- _law_shuffled: 0 box 1 some 2 left 3 found 4 turn -/
def b__law_shuffled : List Sm := [
  .asg (.tup [(.nm 2), (.nm 3)]) (.tup [(.blt .list true [(.v 1)]), (.lst true [])]),
  .frl (.nm 4) .rng1 [(.blt .len false [(.v 1)])] [
    .exp (.mth .append (.v 3) [(.mth .popAt (.v 2) [(.call 8 [(.v 0), (.blt .len false [(.v 2)])] [])])])],
  .ret (.v 3)]
def f__law_shuffled : Fn := ⟨5, 2, b__law_shuffled, true⟩
/-- _law_same: 0 told 1 due 2 one 3 other -/
def b__law_same : List Sm := [
  .ifs (.blt (.isT 2) false [(.v 1)]) [
    .ifs (.or (.not (.blt (.isT 2) false [(.v 0)])) (.cmp .NotEq (.blt .len false [(.v 0)]) (.blt .len false [(.v 1)]))) [
      .ret (.c (.bool false))] [],
    .ret (.cmp .Eq (.comp false [2, 3] (.tup [(.nm 2), (.nm 3)]) .zip [(.v 0), (.v 1)] [(.not (.call 11 [(.v 2), (.v 3)] []))] (.c (.int 1))) (.lst false []))] [],
  .ifs (.or (.cmp .Is (.v 1) (.c (.none))) (.or (.blt (.isT 1) false [(.v 1)]) (.blt (.isT 1) false [(.v 0)]))) [
    .ret (.ite (.cmp .Is (.v 1) (.c (.none))) (.cmp .Is (.v 0) (.c (.none))) (.and (.blt (.isT 1) false [(.v 1)]) (.and (.blt (.isT 1) false [(.v 0)]) (.cmp .Eq (.v 0) (.v 1)))))] [],
  .ret (.and (.ite (.blt (.isT 0) false [(.v 1)]) (.blt (.isT 0) false [(.v 0)]) (.blt (.isT 3) false [(.v 0)])) (.cmp .Eq (.v 0) (.v 1)))]
def f__law_same : Fn := ⟨4, 2, b__law_same, true⟩
/-- _law_want: 0 house 1 guest -/
def b__law_want : List Sm := [
  .ret (.ite (.cmp .Eq (.sub (.v 1) (.c (.int 1))) (.neg (.c (.int 1)))) (.c (.none)) (.sub (.sub (.sub (.v 0) (.c (.int 1))) (.sub (.v 1) (.c (.int 1)))) (.c (.int 0))))]
def f__law_want : Fn := ⟨2, 2, b__law_want, true⟩
/-- _law_stuck: 0 house 1 stand 2 left 3 place 4 turn 5 kept 6 guest -/
def b__law_stuck : List Sm := [
  .asg (.nm 2) (.comp false [3] (.nm 3) .rng1 [(.blt .len false [(.v 1)])] [(.cmp .Eq (.blt .len false [(.sub (.v 1) (.v 3))]) (.sub (.sub (.v 0) (.c (.int 0))) (.v 3)))] (.v 3)),
  .frl (.nm 4) .rng1 [(.bin .Add false (.blt .len false [(.v 1)]) (.c (.int 1)))] [
    .asg (.nm 5) (.lst true []),
    .frl (.nm 3) .val [(.v 2)] [
      .ifs (.cmp .Eq (.comp false [6] (.nm 6) .val [(.sub (.v 1) (.v 3))] [(.cmp .NotIn (.call 12 [(.v 0), (.v 6)] []) (.v 2))] (.c (.int 1))) (.lst false [])) [
        .exp (.mth .append (.v 5) [(.v 3)])] []],
    .ifs (.cmp .Eq (.blt .len false [(.v 5)]) (.blt .len false [(.v 2)])) [
      .brk] [],
    .asg (.nm 2) (.v 5)],
  .ret (.v 2)]
def f__law_stuck : Fn := ⟨7, 2, b__law_stuck, true⟩
/-- _law_kinds: 0 house 1 place 2 found 3 number 4 stage 5 after -/
def b__law_kinds : List Sm := [
  .asg (.nm 2) (.lst false []),
  .frl (.tup [(.nm 3), (.nm 4)]) .enum [(.sub (.v 0) (.c (.int 1)))] [
    .ifs (.cmp .Eq (.sub (.v 4) (.c (.int 0))) (.v 1)) [
      .asg (.nm 2) (.bin .Add false (.v 2) (.comp false [5] (.nm 5) .val [(.sub (.v 4) (.c (.int 1)))] [] (.tup [(.v 3), (.v 5)])))] []],
  .ret (.v 2)]
def f__law_kinds : Fn := ⟨6, 2, b__law_kinds, true⟩
/-- _law_nexts: 0 box 1 spots 2 stage 3 last 4 some 5 number 6 found -/
def b__law_nexts : List Sm := [
  .asg (.nm 4) (.comp false [5] (.nm 5) .rng2 [(.v 3), (.blt .len false [(.v 1)])] [(.cmp .NotEq (.sub (.v 1) (.v 5)) (.sub (.v 1) (.v 2)))] (.v 5)),
  .asg (.nm 6) (.comp false [5] (.nm 5) .val [(.v 4)] [(.cmp .Eq (.call 8 [(.v 0), (.c (.int 3))] []) (.c (.int 0)))] (.v 5)),
  .ifs (.and (.cmp .NotEq (.v 4) (.lst false [])) (.cmp .Eq (.v 6) (.lst false []))) [
    .asg (.nm 6) (.lst false [(.call 9 [(.v 0), (.v 4)] [])])] [],
  .ret (.blt .tuple false [(.bin .Add false (.ite (.or (.cmp .Eq (.v 6) (.lst false [])) (.cmp .Eq (.call 8 [(.v 0), (.c (.int 4))] []) (.c (.int 0)))) (.lst false [(.neg (.c (.int 1)))]) (.lst false [])) (.blt .sorted false [(.v 6)]))])]
def f__law_nexts : Fn := ⟨7, 4, b__law_nexts, true⟩
/-- _law_drawn_house: 0 box 1 places 2 stages 3 ends 4 seats 5 place 6 spots 7 stage 8 rows -/
def b__law_drawn_house : List Sm := [
  .asg (.nm 4) (.blt .tuple false [(.comp false [5] (.nm 5) .rng1 [(.v 1)] [] (.call 9 [(.v 0), (.lst false [(.c (.int 1)), (.c (.int 1)), (.c (.int 1)), (.c (.int 2))])] []))]),
  .asg (.nm 6) (.comp false [7] (.nm 7) .rng1 [(.v 2)] [] (.call 8 [(.v 0), (.v 1)] [])),
  .asg (.nm 8) (.comp false [7] (.nm 7) .rng1 [(.v 2)] [] (.tup [(.sub (.v 6) (.v 7)), (.call 15 [(.v 0), (.v 6), (.v 7), (.ite (.v 3) (.bin .Add false (.v 7) (.c (.int 1))) (.c (.int 0)))] [])])),
  .ret (.tup [(.v 4), (.blt .tuple false [(.v 8)])])]
def f__law_drawn_house : Fn := ⟨9, 4, b__law_drawn_house, true⟩
/-- _law_any_stand: 0 box 1 house 2 much 3 stand 4 place 5 seats 6 kinds 7 guests 8 seat -/
def b__law_any_stand : List Sm := [
  .asg (.nm 3) (.lst true []),
  .frl (.tup [(.nm 4), (.nm 5)]) .enum [(.sub (.v 1) (.c (.int 0)))] [
    .asg (.nm 6) (.call 14 [(.v 1), (.v 4)] []),
    .asg (.nm 7) (.comp false [8] (.nm 8) .rng1 [(.v 5)] [(.and (.cmp .NotEq (.v 6) (.lst false [])) (.cmp .Lt (.call 8 [(.v 0), (.c (.int 4))] []) (.v 2)))] (.call 9 [(.v 0), (.v 6)] [])),
    .exp (.mth .append (.v 3) [(.blt .tuple false [(.blt .sorted false [(.v 7)])])])],
  .ret (.blt .tuple false [(.v 3)])]
def f__law_any_stand : Fn := ⟨9, 3, b__law_any_stand, true⟩
/-- _law_nexts_near: 0 box 1 spots 2 place 3 nexts 4 found 5 after 6 others 7 number -/
def b__law_nexts_near : List Sm := [
  .asg (.nm 4) (.comp true [5] (.nm 5) .val [(.v 3)] [(.or (.cmp .Eq (.v 5) (.neg (.c (.int 1)))) (.cmp .NotEq (.sub (.v 1) (.v 5)) (.v 2)))] (.v 5)),
  .ifs (.and (.cmp .Gt (.blt .len false [(.v 4)]) (.c (.int 1))) (.cmp .Eq (.call 8 [(.v 0), (.c (.int 3))] []) (.c (.int 0)))) [
    .exp (.mth .remove (.v 4) [(.call 9 [(.v 0), (.v 4)] [])])] [],
  .asg (.nm 6) (.comp false [7] (.nm 7) .rng1 [(.blt .len false [(.v 1)])] [(.and (.cmp .NotEq (.sub (.v 1) (.v 7)) (.v 2)) (.cmp .NotIn (.v 7) (.v 4)))] (.v 7)),
  .ifs (.and (.cmp .NotEq (.v 6) (.lst false [])) (.cmp .Eq (.call 8 [(.v 0), (.c (.int 3))] []) (.c (.int 0)))) [
    .exp (.mth .append (.v 4) [(.call 9 [(.v 0), (.v 6)] [])])] [],
  .ifs (.or (.cmp .Eq (.v 4) (.lst false [])) (.and (.cmp .NotIn (.neg (.c (.int 1))) (.v 4)) (.cmp .Eq (.call 8 [(.v 0), (.c (.int 5))] []) (.c (.int 0))))) [
    .exp (.mth .append (.v 4) [(.neg (.c (.int 1)))])] [],
  .ret (.blt .tuple false [(.blt .sorted false [(.v 4)])])]
def f__law_nexts_near : Fn := ⟨8, 4, b__law_nexts_near, true⟩
/-- _law_new_book: 0 box 1 house 2 loose 3 old 4 many 5 order 6 turned 7 spots 8 number 9 stages 10 nexts 11 after 12 told -/
def b__law_new_book : List Sm := [
  .asg (.nm 3) (.sub (.v 1) (.c (.int 1))),
  .asg (.nm 4) (.bin .Add false (.blt .len false [(.v 3)]) (.ite (.cmp .Lt (.blt .len false [(.v 3)]) (.c (.int 24))) (.call 8 [(.v 0), (.c (.int 2))] []) (.c (.int 0)))),
  .asg (.nm 5) (.call 10 [(.v 0), (.blt .lrng1 false [(.v 4)])] []),
  .asg (.tup [(.nm 6), (.nm 7)]) (.tup [(.slc false (.v 5) (.c .none) (.blt .len false [(.v 3)])), (.comp true [8] (.nm 8) .rng1 [(.v 4)] [] (.c (.int 0)))]),
  .frl (.nm 8) .rng1 [(.v 4)] [
    .setS (.v 7) (.sub (.v 5) (.v 8)) (.ite (.cmp .Lt (.v 8) (.blt .len false [(.v 3)])) (.sub (.sub (.v 3) (.v 8)) (.c (.int 0))) (.call 8 [(.v 0), (.blt .len false [(.sub (.v 1) (.c (.int 0)))])] []))],
  .ifs (.and (.v 2) (.cmp .Eq (.call 8 [(.v 0), (.c (.int 4))] []) (.c (.int 0)))) [
    .setS (.v 7) (.call 8 [(.v 0), (.v 4)] []) (.call 8 [(.v 0), (.blt .len false [(.sub (.v 1) (.c (.int 0)))])] [])] [],
  .asg (.nm 9) (.comp true [8] (.nm 8) .rng1 [(.v 4)] [] (.c (.none))),
  .frl (.nm 8) .rng1 [(.v 4)] [
    .asg (.nm 10) (.ite (.cmp .Lt (.v 8) (.blt .len false [(.v 3)])) (.comp false [11] (.nm 11) .val [(.sub (.sub (.v 3) (.v 8)) (.c (.int 1)))] [] (.ite (.cmp .GtE (.v 11) (.c (.int 0))) (.sub (.v 6) (.v 11)) (.v 11))) (.lst false [(.neg (.c (.int 1)))])),
    .setS (.v 9) (.sub (.v 5) (.v 8)) (.tup [(.sub (.v 7) (.sub (.v 5) (.v 8))), (.call 18 [(.v 0), (.v 7), (.sub (.v 7) (.sub (.v 5) (.v 8))), (.v 10)] [])])],
  .asg (.nm 12) (.comp true [11] (.nm 11) .val [(.v 6)] [] (.ite (.and (.v 2) (.cmp .Eq (.call 8 [(.v 0), (.c (.int 6))] []) (.c (.int 0)))) (.c (.none)) (.v 11))),
  .ifs (.and (.v 2) (.cmp .Eq (.call 8 [(.v 0), (.c (.int 4))] []) (.c (.int 0)))) [
    .setS (.v 12) (.call 8 [(.v 0), (.blt .len false [(.v 12)])] []) (.call 8 [(.v 0), (.v 4)] [])] [],
  .ret (.tup [(.blt .tuple false [(.v 9)]), (.blt .tuple false [(.v 12)])])]
def f__law_new_book : Fn := ⟨13, 3, b__law_new_book, true⟩
/-- _law_same_book: 0 box 1 house 2 old 3 order 4 stages 5 stage 6 number 7 nexts 8 after 9 more 10 other -/
def b__law_same_book : List Sm := [
  .asg (.nm 2) (.sub (.v 1) (.c (.int 1))),
  .asg (.nm 3) (.call 10 [(.v 0), (.blt .lrng1 false [(.blt .len false [(.v 2)])])] []),
  .asg (.nm 4) (.comp true [5] (.nm 5) .val [(.v 2)] [] (.c (.none))),
  .frl (.tup [(.nm 6), (.nm 5)]) .enum [(.v 2)] [
    .asg (.nm 7) (.comp false [8] (.nm 8) .val [(.sub (.v 5) (.c (.int 1)))] [] (.ite (.cmp .GtE (.v 8) (.c (.int 0))) (.sub (.v 3) (.v 8)) (.v 8))),
    .asg (.nm 9) (.comp false [10] (.nm 10) .rng1 [(.blt .len false [(.v 2)])] [(.and (.cmp .NotEq (.sub (.sub (.v 2) (.v 10)) (.c (.int 0))) (.sub (.v 5) (.c (.int 0)))) (.cmp .Eq (.call 8 [(.v 0), (.c (.int 4))] []) (.c (.int 0))))] (.sub (.v 3) (.v 10))),
    .setS (.v 4) (.sub (.v 3) (.v 6)) (.tup [(.sub (.v 5) (.c (.int 0))), (.blt .tuple false [(.blt .sortset false [(.bin .Add false (.bin .Add false (.v 7) (.v 9)) (.ite (.cmp .Eq (.call 8 [(.v 0), (.c (.int 4))] []) (.c (.int 0))) (.lst false [(.neg (.c (.int 1)))]) (.lst false [])))])])])],
  .ret (.tup [(.blt .tuple false [(.v 4)]), (.blt .tuple false [(.v 3)])])]
def f__law_same_book : Fn := ⟨11, 2, b__law_same_book, true⟩
/-- _law_turned: 0 stages 1 turned 2 place 3 guest 4 stage 5 after -/
def b__law_turned : List Sm := [
  .asg (.tup [(.nm 4), (.nm 5)]) (.tup [(.sub (.v 1) (.sub (.v 3) (.c (.int 0)))), (.neg (.c (.int 1)))]),
  .ifs (.cmp .GtE (.sub (.v 3) (.c (.int 1))) (.c (.int 0))) [
    .asg (.nm 5) (.sub (.v 1) (.sub (.v 3) (.c (.int 1))))] [],
  .ifs (.or (.cmp .Is (.v 4) (.c (.none))) (.or (.cmp .Is (.v 5) (.c (.none))) (.or (.cmp .NotEq (.sub (.sub (.v 0) (.v 4)) (.c (.int 0))) (.v 2)) (.cmp .NotIn (.v 5) (.sub (.sub (.v 0) (.v 4)) (.c (.int 1))))))) [
    .ret (.c (.none))] [],
  .ret (.tup [(.v 4), (.v 5)])]
def f__law_turned : Fn := ⟨6, 4, b__law_turned, true⟩
/-- _law_due_stand: 0 stand 1 stages 2 turned 3 rows 4 place 5 guests 6 some 7 guest -/
def b__law_due_stand : List Sm := [
  .asg (.nm 3) (.lst true []),
  .frl (.tup [(.nm 4), (.nm 5)]) .enum [(.v 0)] [
    .asg (.nm 6) (.comp false [7] (.nm 7) .val [(.v 5)] [] (.call 21 [(.v 1), (.v 2), (.v 4), (.v 7)] [])),
    .ifs (.cmp .In (.c (.none)) (.v 6)) [
      .ret (.tup [(.c (.str "refused")), (.v 4), (.c (.bool true))])] [],
    .exp (.mth .append (.v 3) [(.blt .tuple false [(.blt .sorted false [(.v 6)])])])],
  .ret (.tup [(.c (.str "told")), (.blt .tuple false [(.v 3)])])]
def f__law_due_stand : Fn := ⟨8, 3, b__law_due_stand, true⟩
/-- _law_may: 0 house 1 stand 2 stages 3 turned 4 due -/
def b__law_may : List Sm := [
  .asg (.nm 4) (.call 22 [(.v 1), (.v 2), (.v 3)] []),
  .ret (.and (.cmp .Eq (.sub (.v 4) (.c (.int 0))) (.c (.str "told"))) (.cmp .Eq (.call 13 [(.tup [(.sub (.v 0) (.c (.int 0))), (.v 2)]), (.sub (.v 4) (.c (.int 1)))] []) (.lst false [])))]
def f__law_may : Fn := ⟨5, 4, b__law_may, true⟩
/-- _law_some_house: 0 box -/
def b__law_some_house : List Sm := [
  .ifs (.cmp .Eq (.call 8 [(.v 0), (.c (.int 3))] []) (.c (.int 0))) [
    .ret (.call 16 [(.v 0), (.call 9 [(.v 0), (.lst false [(.c (.int 10)), (.c (.int 9)), (.c (.int 1))])] []), (.call 9 [(.v 0), (.lst false [(.c (.int 24)), (.c (.int 23)), (.c (.int 12))])] []), (.c (.bool false))] [])] [],
  .ret (.call 16 [(.v 0), (.bin .Add false (.c (.int 1)) (.call 8 [(.v 0), (.c (.int 5))] [])), (.bin .Add false (.c (.int 1)) (.call 8 [(.v 0), (.c (.int 8))] [])), (.cmp .Eq (.call 8 [(.v 0), (.c (.int 3))] []) (.c (.int 0)))] [])]
def f__law_some_house : Fn := ⟨1, 1, b__law_some_house, true⟩
/-- _law_typed: 0 house 1 stand 2 stages 3 both -/
def b__law_typed : List Sm := [
  .asg (.nm 0) (.tup [(.tup [(.c (.int 1)), (.c (.int 1)), (.c (.int 1))]), (.tup [(.tup [(.c (.int 0)), (.tup [(.c (.int 1)), (.c (.int 2))])]), (.tup [(.c (.int 1)), (.tup [(.c (.int 0)), (.c (.int 2))])]), (.tup [(.c (.int 2)), (.tup [(.neg (.c (.int 1))), (.c (.int 0)), (.c (.int 1))])])])]),
  .asg (.nm 1) (.tup [(.tup [(.tup [(.c (.int 0)), (.c (.int 1))])]), (.tup [(.tup [(.c (.int 1)), (.c (.int 2))])]), (.tup [])]),
  .asg (.nm 2) (.tup [(.tup [(.c (.int 0)), (.tup [(.c (.int 1)), (.c (.int 2))])]), (.tup [(.c (.int 1)), (.tup [(.c (.int 0)), (.c (.int 3))])]), (.tup [(.c (.int 2)), (.tup [(.neg (.c (.int 1))), (.c (.int 0))])]), (.tup [(.c (.int 0)), (.tup [(.c (.int 1))])])]),
  .asg (.nm 3) (.tup [(.tup [(.tup [(.c (.int 0)), (.c (.int 1))])]), (.tup [(.tup [(.c (.int 1)), (.c (.int 0))])]), (.tup [])]),
  .ret (.lst false [(.tup [(.v 0), (.v 1), (.v 2), (.tup [(.c (.int 0)), (.c (.int 1)), (.c (.int 3))])]), (.tup [(.v 0), (.v 3), (.tup [(.tup [(.c (.int 0)), (.tup [(.c (.int 1))])]), (.tup [(.c (.int 1)), (.tup [(.c (.int 2))])]), (.tup [(.c (.int 2)), (.tup [(.neg (.c (.int 1)))])])]), (.tup [(.c (.int 0)), (.c (.int 1)), (.c (.int 2))])]), (.tup [(.v 0), (.v 3), (.v 2), (.tup [(.c (.int 0)), (.c (.int 1)), (.c (.int 2))])])])]
def f__law_typed : Fn := ⟨4, 0, b__law_typed, true⟩
/-- _law_may_right: 0 house 1 stand 2 stages 3 turned -/
def b__law_may_right : List Sm := [
  .ret (.call 11 [(.call 6 [(.v 0), (.v 1), (.v 2), (.v 3)] []), (.call 23 [(.v 0), (.v 1), (.v 2), (.v 3)] [])] [])]
def f__law_may_right : Fn := ⟨4, 4, b__law_may_right, true⟩
/-- law: 0 script 1 house 2 stand 3 stages 4 turned 5 k 6 box 7 turn 8 kept 9 order 10 empty 11 seats 12 again 13 behind -/
def b_law : List Sm := [
  .frl (.tup [(.nm 1), (.nm 2), (.nm 3), (.nm 4)]) .val [(.call 25 [] [])] [
    .ifs (.not (.call 26 [(.v 1), (.v 2), (.v 3), (.v 4)] [])) [
      .ret (.c (.bool false))] []],
  .frl (.nm 5) .rng1 [(.blt .max2 false [(.c (.int 3)), (.blt .min2 false [(.blt .len false [(.v 0)]), (.c (.int 6))])])] [
    .asg (.nm 6) (.call 7 [(.v 0), (.v 5)] []),
    .frl (.nm 7) .rng1 [(.c (.int 3))] [
      .asg (.nm 1) (.call 24 [(.v 6)] []),
      .asg (.tup [(.nm 3), (.nm 4)]) (.call 19 [(.v 6), (.v 1), (.cmp .Eq (.call 8 [(.v 6), (.c (.int 2))] []) (.c (.int 0)))] []),
      .asg (.tup [(.nm 8), (.nm 9)]) (.call 20 [(.v 6), (.v 1)] []),
      .asg (.nm 10) (.blt .tuple false [(.comp false [11] (.nm 11) .val [(.sub (.v 1) (.c (.int 0)))] [] (.tup []))]),
      .ifs (.not (.call 11 [(.call 6 [(.v 1), (.v 10), (.v 3), (.v 4)] []), (.c (.bool true))] [])) [
        .ret (.c (.bool false))] [],
      .frl (.nm 12) .rng1 [(.c (.int 5))] [
        .asg (.nm 2) (.call 17 [(.v 6), (.v 1), (.call 9 [(.v 6), (.lst false [(.c (.int 1)), (.c (.int 2)), (.c (.int 4)), (.c (.int 4))])] [])] []),
        .ifs (.or (.not (.call 26 [(.v 1), (.v 2), (.v 3), (.v 4)] [])) (.not (.call 26 [(.v 1), (.v 2), (.v 8), (.v 9)] []))) [
          .ret (.c (.bool false))] [],
        .asg (.nm 13) (.call 5 [(.v 1), (.v 2), (.v 8), (.v 9)] []),
        .ifs (.not (.call 11 [(.call 3 [(.tup [(.sub (.v 1) (.c (.int 0))), (.v 8)]), (.v 13)] []), (.blt .tuple false [(.call 13 [(.v 1), (.v 2)] [])])] [])) [
          .ret (.c (.bool false))] []]]],
  .ret (.c (.bool true))]
def f_law : Fn := ⟨14, 1, b_law, true⟩
def f_none : Fn := ⟨0, 0, [], true⟩
def fnl : List Fn := [f_wanted_place, f_has_room, f_are_held, f_stuck_lot, f_turned_guest, f_changed_stand, f_may_change, f__law_box, f__law_take, f__law_pick, f__law_shuffled, f__law_same, f__law_want, f__law_stuck, f__law_kinds, f__law_nexts, f__law_drawn_house, f__law_any_stand, f__law_nexts_near, f__law_new_book, f__law_same_book, f__law_turned, f__law_due_stand, f__law_may, f__law_some_house, f__law_typed, f__law_may_right, f_law]
def tab : Nat → Option Fn := fun f => fnl[f]?
theorem r_wanted_place (n : Nat) (a0 a1 : D) (S : Store) : run tab (n + 1) 0 [a0, a1] S = gc true S (execs (run tab n) b_wanted_place [some a0, some a1] S) := rfl
theorem r_has_room (n : Nat) (a0 a1 a2 : D) (S : Store) : run tab (n + 1) 1 [a0, a1, a2] S = gc true S (execs (run tab n) b_has_room [some a0, some a1, some a2] S) := rfl
theorem r_are_held (n : Nat) (a0 a1 a2 a3 : D) (S : Store) : run tab (n + 1) 2 [a0, a1, a2, a3] S = gc true S (execs (run tab n) b_are_held [some a0, some a1, some a2, some a3, none] S) := rfl
theorem r_stuck_lot (n : Nat) (a0 a1 : D) (S : Store) : run tab (n + 1) 3 [a0, a1] S = gc true S (execs (run tab n) b_stuck_lot [some a0, some a1, none, none, none] S) := rfl
theorem r_turned_guest (n : Nat) (a0 a1 a2 a3 : D) (S : Store) : run tab (n + 1) 4 [a0, a1, a2, a3] S = gc true S (execs (run tab n) b_turned_guest [some a0, some a1, some a2, some a3, none, none, none, none, none] S) := rfl
theorem r_changed_stand (n : Nat) (a0 a1 a2 a3 : D) (S : Store) : run tab (n + 1) 5 [a0, a1, a2, a3] S = gc true S (execs (run tab n) b_changed_stand [some a0, some a1, some a2, some a3, none, none, none, none, none] S) := rfl
theorem r_may_change (n : Nat) (a0 a1 a2 a3 : D) (S : Store) : run tab (n + 1) 6 [a0, a1, a2, a3] S = gc true S (execs (run tab n) b_may_change [some a0, some a1, some a2, some a3, none] S) := rfl
theorem r__law_box (n : Nat) (a0 a1 : D) (S : Store) : run tab (n + 1) 7 [a0, a1] S = gc false S (execs (run tab n) b__law_box [some a0, some a1, none, none] S) := rfl
theorem r__law_take (n : Nat) (a0 a1 : D) (S : Store) : run tab (n + 1) 8 [a0, a1] S = gc true S (execs (run tab n) b__law_take [some a0, some a1, none, none] S) := rfl
theorem r__law_pick (n : Nat) (a0 a1 : D) (S : Store) : run tab (n + 1) 9 [a0, a1] S = gc true S (execs (run tab n) b__law_pick [some a0, some a1] S) := rfl
theorem r__law_shuffled (n : Nat) (a0 a1 : D) (S : Store) : run tab (n + 1) 10 [a0, a1] S = gc true S (execs (run tab n) b__law_shuffled [some a0, some a1, none, none, none] S) := rfl
theorem r__law_same (n : Nat) (a0 a1 : D) (S : Store) : run tab (n + 1) 11 [a0, a1] S = gc true S (execs (run tab n) b__law_same [some a0, some a1, none, none] S) := rfl
theorem r__law_want (n : Nat) (a0 a1 : D) (S : Store) : run tab (n + 1) 12 [a0, a1] S = gc true S (execs (run tab n) b__law_want [some a0, some a1] S) := rfl
theorem r__law_stuck (n : Nat) (a0 a1 : D) (S : Store) : run tab (n + 1) 13 [a0, a1] S = gc true S (execs (run tab n) b__law_stuck [some a0, some a1, none, none, none, none, none] S) := rfl
theorem r__law_kinds (n : Nat) (a0 a1 : D) (S : Store) : run tab (n + 1) 14 [a0, a1] S = gc true S (execs (run tab n) b__law_kinds [some a0, some a1, none, none, none, none] S) := rfl
theorem r__law_nexts (n : Nat) (a0 a1 a2 a3 : D) (S : Store) : run tab (n + 1) 15 [a0, a1, a2, a3] S = gc true S (execs (run tab n) b__law_nexts [some a0, some a1, some a2, some a3, none, none, none] S) := rfl
theorem r__law_drawn_house (n : Nat) (a0 a1 a2 a3 : D) (S : Store) : run tab (n + 1) 16 [a0, a1, a2, a3] S = gc true S (execs (run tab n) b__law_drawn_house [some a0, some a1, some a2, some a3, none, none, none, none, none] S) := rfl
theorem r__law_any_stand (n : Nat) (a0 a1 a2 : D) (S : Store) : run tab (n + 1) 17 [a0, a1, a2] S = gc true S (execs (run tab n) b__law_any_stand [some a0, some a1, some a2, none, none, none, none, none, none] S) := rfl
theorem r__law_nexts_near (n : Nat) (a0 a1 a2 a3 : D) (S : Store) : run tab (n + 1) 18 [a0, a1, a2, a3] S = gc true S (execs (run tab n) b__law_nexts_near [some a0, some a1, some a2, some a3, none, none, none, none] S) := rfl
theorem r__law_new_book (n : Nat) (a0 a1 a2 : D) (S : Store) : run tab (n + 1) 19 [a0, a1, a2] S = gc true S (execs (run tab n) b__law_new_book [some a0, some a1, some a2, none, none, none, none, none, none, none, none, none, none] S) := rfl
theorem r__law_same_book (n : Nat) (a0 a1 : D) (S : Store) : run tab (n + 1) 20 [a0, a1] S = gc true S (execs (run tab n) b__law_same_book [some a0, some a1, none, none, none, none, none, none, none, none, none] S) := rfl
theorem r__law_turned (n : Nat) (a0 a1 a2 a3 : D) (S : Store) : run tab (n + 1) 21 [a0, a1, a2, a3] S = gc true S (execs (run tab n) b__law_turned [some a0, some a1, some a2, some a3, none, none] S) := rfl
theorem r__law_due_stand (n : Nat) (a0 a1 a2 : D) (S : Store) : run tab (n + 1) 22 [a0, a1, a2] S = gc true S (execs (run tab n) b__law_due_stand [some a0, some a1, some a2, none, none, none, none, none] S) := rfl
theorem r__law_may (n : Nat) (a0 a1 a2 a3 : D) (S : Store) : run tab (n + 1) 23 [a0, a1, a2, a3] S = gc true S (execs (run tab n) b__law_may [some a0, some a1, some a2, some a3, none] S) := rfl
theorem r__law_some_house (n : Nat) (a0 : D) (S : Store) : run tab (n + 1) 24 [a0] S = gc true S (execs (run tab n) b__law_some_house [some a0] S) := rfl
theorem r__law_typed (n : Nat) (S : Store) : run tab (n + 1) 25 [] S = gc true S (execs (run tab n) b__law_typed [none, none, none, none] S) := rfl
theorem r__law_may_right (n : Nat) (a0 a1 a2 a3 : D) (S : Store) : run tab (n + 1) 26 [a0, a1, a2, a3] S = gc true S (execs (run tab n) b__law_may_right [some a0, some a1, some a2, some a3] S) := rfl
theorem r_law (n : Nat) (a0 : D) (S : Store) : run tab (n + 1) 27 [a0] S = gc true S (execs (run tab n) b_law [some a0, none, none, none, none, none, none, none, none, none, none, none, none, none] S) := rfl
end Lw

set_option linter.all false
set_option maxRecDepth 100000
/-! Hs.T: more steps by what is wanted; tactics for houses. -/
namespace Hs
open PySem DL L2
theorem nX_lsts {S : Store} {a b : D} (h : lsts S = true) : lsts (S ++ [.lst [a, b]]) = true := lsts_add h rfl
section
variable {Q : D → Store → Prop} {X : Nat → D → Store → Prop} {S : Store}
theorem R_mulI {m : Bool} {i j : Int} (hs : (small64 i || small64 j) = true) (h : Q (.int (i * j)) S) : R (binV .Mult m (.int i) (.int j) S) Q X := R_eq (by simp only [binV, hs, if_true]) h
theorem R_modI {m : Bool} {i j : Int} (hj : 0 < j) (h : Q (.int (i % j)) S) : R (binV .Mod m (.int i) (.int j) S) Q X := R_eq (bin_mod_i _ _ _ hj) h
theorem R_divI {m : Bool} {i j : Int} (hj : 0 < j ∧ j < 1073741824) (h : Q (.int (i / j)) S) : R (binV .FloorDiv m (.int i) (.int j) S) Q X := R_eq (bin_div_i _ _ _ hj) h
theorem R_pow18 (h : Q (.int 1000000000000000000) S) : R (binV .Pow false (.int 10) (.int 18) S) Q X := R_eq (by simp [binV]) h
theorem R_int {m : Bool} {i : Int} (h : Q (.int i) S) : R (bltV .int m [.int i] S) Q X := h
theorem R_abs {m : Bool} {i : Int} (h : Q (.int (if i < 0 then -i else i)) S) : R (bltV .abs m [.int i] S) Q X := h
theorem R_max2 {m : Bool} {i j : Int} (h : Q (.int (if j > i then j else i)) S) : R (bltV .max2 m [.int i, .int j] S) Q X := h
theorem R_min2 {m : Bool} {i j : Int} (h : Q (.int (if j < i then j else i)) S) : R (bltV .min2 m [.int i, .int j] S) Q X := h
theorem R_addN1 {m : Bool} {i : Nat} (h : Q (.int ((i + 1 : Nat) : Int)) S) : R (binV .Add m (.int (i : Int)) (.int 1) S) Q X := h
theorem R_1addN {m : Bool} {i : Nat} (h : Q (.int ((1 + i : Nat) : Int)) S) : R (binV .Add m (.int 1) (.int (i : Int)) S) Q X := by
  refine R_addI ?_
  rw [Int.natCast_add] at h
  exact h
theorem eqv_nil : ∀ xs : List D, PyData.eqv (.list xs) (.list []) = xs.isEmpty
  | [] => rfl
  | _ :: _ => rfl
theorem eqOk_nil {xs : List D} (hp : PyData.plainAll xs = true) : eqOk (.list xs) (.list []) = true := by
  simp only [eqOk, PyData.plain, hp, Bool.true_and]
  exact decide_eq_true (Nat.le_trans (Nat.min_le_right _ _) (by simp [PyData.depth, PyData.depthAll]))
theorem R_eqNil {a : D} {xs : List D} (hs : res S a = .list xs) (hp : PyData.plainAll xs = true) (h : Q (.bool xs.isEmpty) S) : R (cmpV .Eq a (.list []) S) Q X := by
  refine R_eq (a := .bool xs.isEmpty) (S := S) ?_ h
  simp only [cmpV, hs]
  rw [show res S (.list []) = .list [] from rfl, eqOk_nil hp, eqv_nil]
  rfl
theorem R_neNil {a : D} {xs : List D} (hs : res S a = .list xs) (hp : PyData.plainAll xs = true) (h : Q (.bool (!xs.isEmpty)) S) : R (cmpV .NotEq a (.list []) S) Q X := by
  refine R_eq (a := .bool (!xs.isEmpty)) (S := S) ?_ h
  simp only [cmpV, hs]
  rw [show res S (.list []) = .list [] from rfl, eqOk_nil hp, eqv_nil]
  rfl
theorem pl_map {α : Type} {f : α → D} {l : List α} (h : ∀ a, (f a).plain = true) : PyData.plainAll (l.map f) = true := plainAll_map h l
theorem R_eqNilF {α : Type} {f : α → D} {l : List α} (hp : ∀ a, (f a).plain = true) (h : Q (.bool l.isEmpty) S) : R (cmpV .Eq (.list (l.map f)) (.list []) S) Q X := R_eqNil rfl (pl_map hp) (by rw [List.isEmpty_map]; exact h)
theorem R_neNilF {α : Type} {f : α → D} {l : List α} (hp : ∀ a, (f a).plain = true) (h : Q (.bool (!l.isEmpty)) S) : R (cmpV .NotEq (.list (l.map f)) (.list []) S) Q X := R_neNil rfl (pl_map hp) (by rw [List.isEmpty_map]; exact h)
theorem nD_pl (n : Nat) : (nD n).plain = true := rfl
theorem oD_pl (n : Option Nat) : (oD n).plain = true := rfl
theorem eqvL_ns : ∀ (a b : List Nat), PyData.eqv (.list (a.map nD)) (.list (b.map nD)) = decide (a = b)
  | [], [] => rfl
  | [], y :: b => rfl
  | x :: a, [] => rfl
  | x :: a, y :: b => by
    have ih := eqvL_ns a b
    have e : PyData.eqv (.list ((x :: a).map nD)) (.list ((y :: b).map nD)) = (PyData.eqv (nD x) (nD y) && PyData.eqv (.list (a.map nD)) (.list (b.map nD))) := rfl
    rw [e, ih, nD_eqv]
    by_cases c : x = y
    · subst c
      by_cases d : a = b
      · subst d; simp
      · simp [d]
    · simp [c]
theorem depth_ns : ∀ a : List Nat, PyData.depthAll (a.map nD) ≤ 1
  | [] => by simp [PyData.depthAll]
  | x :: a => by
    have := depth_ns a
    simp only [List.map_cons, PyData.depthAll, nD, PyData.depth]
    omega
theorem R_neN {a b : List Nat} (h : Q (.bool (!decide (a = b))) S) : R (cmpV .NotEq (.list (a.map nD)) (.list (b.map nD)) S) Q X := by
  have h1 : eqOk (.list (a.map nD)) (.list (b.map nD)) = true := by
    have d1 := depth_ns a
    simp only [eqOk, PyData.plain, pl_map nD_pl, PyData.depth, Bool.and_self, Bool.true_and, decide_eq_true_eq]
    exact decide_eq_true (Nat.le_trans (Nat.min_le_left _ _) (by omega))
  refine R_eq (a := .bool (!decide (a = b))) (S := S) ?_ h
  simp only [cmpV, res, h1, if_true, eqvL_ns]
theorem R_neLN {xs : List D} (hp : PyData.plainAll xs = true) (h : Q (.bool true) S) : R (cmpV .NotEq (.list xs) .none S) Q X := by
  have h1 : eqOk (.list xs) .none = true := by
    simp only [eqOk, PyData.plain, hp, PyData.depth, Bool.and_self, Bool.true_and, decide_eq_true_eq]
    exact decide_eq_true (Nat.le_trans (Nat.min_le_right _ _) (Nat.zero_le _))
  have h2 : PyData.eqv (.list xs) .none = false := rfl
  refine R_eq (a := .bool true) (S := S) ?_ h
  simp only [cmpV, res, h1, if_true, h2, Bool.not_false]
/-- None in a row: is any of it none? -/
theorem R_noneIn {xs : List D} {d : D} (hs : seqOf S d = some xs) (hp : PyData.plainAll xs = true) (h : Q (.bool (xs.any isNone)) S) : R (cmpV .In .none d S) Q X := by
  have h1 : inOk xs .none = true := by
    simp only [inOk, hp, PyData.plain, PyData.depth, Bool.and_self, Bool.true_and, decide_eq_true_eq]
    exact decide_eq_true (Nat.le_trans (Nat.min_le_right _ _) (Nat.zero_le _))
  have h2 : ∀ y : D, PyData.eqv y .none = isNone y := fun y => by cases y <;> rfl
  refine R_eq (a := .bool (xs.any isNone)) (S := S) ?_ h
  simp only [cmpV, hs, res, h1, if_true, h2]
/-- None in a row without one, None not in -/
theorem R_noneInN {X' : List Nat} {d : D} (hs : seqOf S d = some (X'.map nD)) (h : Q (.bool false) S) : R (cmpV .In .none d S) Q X := R_noneIn hs (pl_map nD_pl) (by
  have : (X'.map nD).any isNone = false := by
    rw [List.any_eq_false]
    intro y hy
    obtain ⟨x, _, rfl⟩ := List.mem_map.mp hy
    simp [isNone]
  rw [this]; exact h)
theorem R_noneNotinN {X' : List Nat} {d : D} (hs : seqOf S d = some (X'.map nD)) (h : Q (.bool true) S) : R (cmpV .NotIn .none d S) Q X := by
  have hp := pl_map (l := X') nD_pl
  have h1 : inOk (X'.map nD) .none = true := by
    simp only [inOk, hp, PyData.plain, PyData.depth, Bool.and_self, Bool.true_and, decide_eq_true_eq]
    exact decide_eq_true (Nat.le_trans (Nat.min_le_right _ _) (Nat.zero_le _))
  have h2 : ((X'.map nD).any fun y => PyData.eqv y .none) = false := by
    rw [List.any_eq_false]
    intro y hy
    obtain ⟨x, _, rfl⟩ := List.mem_map.mp hy
    simp [nD, PyData.eqv]
  refine R_eq (a := .bool true) (S := S) ?_ h
  simp only [cmpV, hs, res, h1, if_true, h2, Bool.not_false]
theorem boolsOf_map : ∀ bs : List Bool, boolsOf (bs.map PyData.bool) = some bs
  | [] => rfl
  | b :: r => by simp [boolsOf, boolsOf_map r]
theorem R_all {α : Type} {f : α → Bool} {l : List α} {m : Bool} (h : Q (.bool (l.all f)) S) : R (bltV .all m [.list (l.map fun x => .bool (f x))] S) Q X := by
  refine R_eq (a := .bool (l.all f)) (S := S) ?_ h
  show allV [.list (l.map fun x => PyData.bool (f x))] S = .ok (.bool (l.all f)) S
  have e : (l.map fun x => PyData.bool (f x)) = (l.map f).map PyData.bool := by rw [List.map_map]; rfl
  rw [e]
  simp only [allV, lstOf, boolsOf_map, List.all_map]
  rfl
theorem fm_some {α β : Type} (f : α → β) (l : List α) : l.filterMap (fun x => some (f x)) = l.map f := by simp
theorem fm_if {α : Type} (p : α → Bool) (l : List α) : l.filterMap (fun x => if p x then some x else none) = l.filter p := by
  induction l with
  | nil => rfl
  | cons a l ih => by_cases h : p a = true <;> simp [h, ih]
theorem fm_ifD {α β : Type} (p : α → Bool) (f : α → β) (l : List α) : l.filterMap (fun x => if p x then some (f x) else none) = (l.filter p).map f := by
  induction l with
  | nil => rfl
  | cons a l ih => by_cases h : p a = true <;> simp [h, ih]
/-! ### sorting nexts -/
def ole (a b : Option Nat) : Bool := decide (nI a ≤ nI b)
def osort (l : List (Option Nat)) : List (Option Nat) := l.mergeSort ole
theorem osort_perm (l : List (Option Nat)) : (osort l).Perm l := List.mergeSort_perm l ole
theorem osort_mem {l : List (Option Nat)} {g : Option Nat} : g ∈ osort l ↔ g ∈ l := (osort_perm l).mem_iff
theorem osort_len (l : List (Option Nat)) : (osort l).length = l.length := (osort_perm l).length_eq
theorem osort_D (l : List (Option Nat)) : sortD (l.map oD) = (osort l).map oD := by
  unfold sortD osort
  refine (List.map_mergeSort (f := oD) (r := ole) (s := W.dataLe false id) (fun a _ b _ => ?_)).symm
  exact (congrFun (congrFun (W.dataLe_int (fun g : Option Nat => nI g)) a) b).symm
theorem sortOk_o (l : List (Option Nat)) : sortOk (l.map oD) = true := by
  unfold sortOk
  simp only [pl_map oD_pl, Bool.true_and, Bool.and_eq_true, Bool.or_eq_true]
  refine ⟨⟨?_, .inr ?_⟩, ?_⟩
  · simp only [alikeB, List.all_map, List.all_eq_true, Function.comp]
    intro a _ b _
    rfl
  · simp only [List.all_map, List.all_eq_true, Function.comp]
    intro a _
    rfl
  · simp only [List.all_map, List.all_eq_true, Function.comp, decide_eq_true_eq]
    intro a _
    simp [oD, PyData.depth]
theorem R_sortO {l : List (Option Nat)} {d : D} (hs : seqOf S d = some (l.map oD)) (hz : l.length ≤ 100000) (h : Q (.list ((osort l).map oD)) S) : R (bltV .sorted false [d] S) Q X := by
  show R (sortedV false [d] S) Q X
  have z : (osort l).length ≤ sizeLine := by rw [osort_len, sizeLine_eq]; omega
  simp only [sortedV, hs, sortOk_o, if_true, osort_D, mkL, List.length_map, if_pos z]
  exact h
theorem nD_oD (l : List Nat) : l.map nD = (l.map some).map oD := by rw [List.map_map]; rfl
def back (z : Int) : Option Nat := if z = -1 then none else some z.toNat
theorem back_nI (o : Option Nat) : back (nI o) = o := by
  cases o with
  | none => rfl
  | some s =>
    have : ¬ ((s : Int) = -1) := by omega
    simp [back, nI, this]
theorem uins_len (x : Int) : ∀ l : List Int, (uins x l).length ≤ l.length + 1
  | [] => Nat.le_refl _
  | y :: r => by
    unfold uins
    split
    · simp
    · split
      · simp
      · have := uins_len x r
        simp only [List.length_cons]
        omega
theorem usort_len : ∀ l : List Int, (usort l).length ≤ l.length
  | [] => Nat.le_refl _
  | y :: r => by
    have h1 := usort_len r
    have h2 := uins_len y (usort r)
    have e : usort (y :: r) = uins y (usort r) := rfl
    rw [e, List.length_cons]
    omega
def ous (l : List (Option Nat)) : List (Option Nat) := (usort (l.map nI)).map back
theorem ous_mem {l : List (Option Nat)} {x : Option Nat} : x ∈ ous l ↔ x ∈ l := by
  unfold ous
  constructor
  · intro hx
    obtain ⟨z, hz, rfl⟩ := List.mem_map.mp hx
    obtain ⟨o, ho, rfl⟩ := List.mem_map.mp (mem_usort.mp hz)
    rw [back_nI]; exact ho
  · intro hx
    exact List.mem_map.mpr ⟨nI x, mem_usort.mpr (List.mem_map_of_mem hx), back_nI x⟩
theorem ous_len (l : List (Option Nat)) : (ous l).length ≤ l.length := by
  unfold ous
  rw [List.length_map]
  exact Nat.le_trans (usort_len _) (by rw [List.length_map]; exact Nat.le_refl _)
theorem ous_D (l : List (Option Nat)) : (usort (l.map nI)).map PyData.int = (ous l).map oD := by
  unfold ous
  rw [List.map_map]
  refine List.map_congr_left fun z hz => ?_
  obtain ⟨o, _, rfl⟩ := List.mem_map.mp (mem_usort.mp hz)
  simp only [Function.comp, back_nI]
theorem intsOf_map : ∀ l : List Int, intsOf (l.map .int) = some l
  | [] => rfl
  | x :: r => by simp [intsOf, intsOf_map r]
theorem R_sortset {l : List (Option Nat)} {d : D} (hs : seqOf S d = some (l.map oD)) (hz : l.length < 64) (h : Q (.list ((ous l).map oD)) S) : R (bltV .sortset false [d] S) Q X := by
  refine R_eq (a := .list ((ous l).map oD)) (S := S) ?_ h
  have e5 : l.map oD = (l.map nI).map .int := by rw [List.map_map]; rfl
  have z : (ous l).length ≤ sizeLine := by
    have hn := ous_len l
    rw [sizeLine_eq]
    omega
  show sortsetV false [d] S = _
  unfold sortsetV
  simp only [hs, e5, intsOf_map, List.length_map, if_pos hz, ous_D, mkL, if_pos z, Bool.false_eq_true, if_false]
/-! ### remove -/
theorem place_o {l : List (Option Nat)} {g : Option Nat} (hg : g ∈ l) : ∃ j, SeqAt.dataPlace (l.map oD) (oD g) = some j ∧ (l.map oD).eraseIdx j = (l.erase g).map oD := by
  unfold SeqAt.dataPlace
  induction l with
  | nil => simp at hg
  | cons a l ih =>
    rw [List.map_cons, List.findIdx?_cons, oD_eqv]
    by_cases e : a = g
    · subst e
      refine ⟨0, by simp, ?_⟩
      simp
    · have e2 : (a == g) = false := beq_eq_false_iff_ne.mpr e
      obtain ⟨j, h1, h2⟩ := ih (by simpa [Ne.symm e, eq_comm] using hg)
      refine ⟨j + 1, by simp [e2, h1], ?_⟩
      rw [List.eraseIdx_cons_succ, h2, List.erase_cons_tail (by rw [e2]; exact Bool.false_ne_true)]
      rfl
theorem R_removeO {S1 Y : Store} {L c : Nat} {l : List (Option Nat)} {g : Option Nat} (hl : S1.length = L) (e : atL Y c = some (l.map oD)) (hg : g ∈ l) (h : Q .none (S1 ++ setL Y c ((l.erase g).map oD))) : R (mthV .remove (rf (L + c)) [.int (nI g)] (S1 ++ Y)) Q X := by
  obtain ⟨j, h1, h2⟩ := place_o hg
  have ok : inOk (l.map oD) (oD g) = true := by
    simp only [inOk, pl_map oD_pl, Bool.true_and]
    refine decide_eq_true ?_
    exact Nat.le_trans (Nat.min_le_right _ _) (by simp [PyData.depth])
  refine R_eq (a := .none) (S := S1 ++ setL Y c ((l.erase g).map oD)) ?_ h
  show onL removeV (rf (L + c)) [oD g] (S1 ++ Y) = _
  rw [onL_loc hl e]
  simp only [removeV]
  rw [show res (S1 ++ Y) (oD g) = oD g from rfl, ok, h1]
  simp only [if_true, h2, setL_loc hl]
/-! ### walks -/
theorem rng1_n {j : Nat} (hj : j ≤ 100000) (S : Store) : itemsV .rng1 [.int (j : Int)] S = .ok ((List.range j).map nD, none) S := by
  show rng1I [.int (j : Int)] S = _
  have : -(2 ^ 62) ≤ (j : Int) ∧ (j : Int) < 2 ^ 62 ∧ (j : Int) ≤ (sizeLine : Nat) := by rw [sizeLine_eq]; omega
  simp only [rng1I, if_pos this, Int.toNat_natCast]
theorem rng2_n {i j : Nat} (hi : i ≤ 100000) (hj : j ≤ 100000) (S : Store) : itemsV .rng2 [.int (i : Int), .int (j : Int)] S = .ok (((List.range (j - i)).map fun k => i + k).map nD, none) S := by
  show rng2I [.int (i : Int), .int (j : Int)] S = _
  have : (-(2 ^ 62) ≤ (i : Int) ∧ (i : Int) < 2 ^ 62 ∧ -(2 ^ 62) ≤ (j : Int) ∧ (j : Int) < 2 ^ 62) ∧ (j : Int) - (i : Int) ≤ (sizeLine : Nat) := by rw [sizeLine_eq]; omega
  have e : ((j : Int) - (i : Int)).toNat = j - i := by omega
  simp only [rng2I, if_pos this, e, List.map_map]
  congr 3
theorem val_n {α : Type} {f : α → D} {l : List α} {d : D} (hs : seqOf S d = some (l.map f)) (hd : locOf d = none) : itemsV .val [d] S = .ok (l.map f, none) S := by
  show valI [d] S = _
  simp only [valI, hs, hd]
def enD {α : Type} (f : α → D) (p : α × Nat) : D := .tuple [.int (p.2 : Int), f p.1]
theorem enum_n {α : Type} {f : α → D} {l : List α} {d : D} (hs : seqOf S d = some (l.map f)) (hd : locOf d = none) : itemsV .enum [d] S = .ok (l.zipIdx.map (enD f), none) S := by
  show enumI [d] S = _
  simp only [enumI, hs, hd]
  congr 2
  refine List.ext_getElem? fun i => ?_
  simp only [List.getElem?_mapIdx, List.getElem?_map, List.getElem?_zipIdx, Option.map_map]
  cases l[i]? with
  | none => rfl
  | some a => simp [enD]
theorem zip_some {α : Type} {r : List (α × Nat)} {x : α × Nat} {st : List α} {i : Nat} (h : st.zipIdx.drop i = x :: r) : x.2 = i ∧ st[i]? = some x.1 ∧ st.zipIdx.drop (i + 1) = r := by
  have h1 : st.zipIdx[i]? = some x := by
    have := congrArg (fun z => z[0]?) h
    simpa using this
  rw [List.getElem?_zipIdx] at h1
  cases e : st[i]? with
  | none => rw [e] at h1; simp at h1
  | some a =>
    rw [e] at h1
    simp only [Option.map_some, Option.some.injEq, Nat.zero_add] at h1
    subst h1
    refine ⟨rfl, rfl, ?_⟩
    have := congrArg (List.drop 1) h
    rw [List.drop_drop] at this
    simpa using this
end
end Hs
local macro_rules | `(tactic| fail "wprim") => `(tactic| ((with_reducible refine DL.R_v (d := ?_) ?_ ?_); rotate_left; rfl))
namespace Hs
open PySem DL L2
end Hs
local macro_rules | `(tactic| fail "wprim") => `(tactic| ((with_reducible refine DL.W_aug (x := ?_) ?_ ?_); rotate_left; rfl))
namespace Hs
open PySem DL L2
end Hs
local macro_rules | `(tactic| fail "wprim") => `(tactic| (with_reducible refine Hs.R_int ?_))
namespace Hs
open PySem DL L2
end Hs
local macro_rules | `(tactic| fail "wprim") => `(tactic| (with_reducible refine Hs.R_abs ?_))
namespace Hs
open PySem DL L2
end Hs
local macro_rules | `(tactic| fail "wprim") => `(tactic| (with_reducible refine Hs.R_max2 ?_))
namespace Hs
open PySem DL L2
end Hs
local macro_rules | `(tactic| fail "wprim") => `(tactic| (with_reducible refine Hs.R_min2 ?_))
namespace Hs
open PySem DL L2
end Hs
local macro_rules | `(tactic| fail "wprim") => `(tactic| (with_reducible refine Hs.R_pow18 ?_))
namespace Hs
open PySem DL L2
end Hs
local macro_rules | `(tactic| fail "wprim") => `(tactic| (with_reducible refine Hs.R_mulI (by first | exact rfl | decide | simp [DL.small64]) ?_))
namespace Hs
open PySem DL L2
end Hs
local macro_rules | `(tactic| fail "wprim") => `(tactic| (with_reducible refine Hs.R_modI (by first | decide | omega) ?_))
namespace Hs
open PySem DL L2
end Hs
local macro_rules | `(tactic| fail "wprim") => `(tactic| (with_reducible refine Hs.R_divI (by first | decide | omega) ?_))
namespace Hs
open PySem DL L2
end Hs
local macro_rules | `(tactic| fail "wprim") => `(tactic| (with_reducible refine Hs.R_addN1 ?_))
namespace Hs
open PySem DL L2
end Hs
local macro_rules | `(tactic| fail "wprim") => `(tactic| (with_reducible refine Hs.R_1addN ?_))
namespace Hs
open PySem DL L2
end Hs
local macro_rules | `(tactic| fail "wprim") => `(tactic| (with_reducible refine Hs.R_lenG ?_))
namespace Hs
open PySem DL L2
end Hs
local macro_rules | `(tactic| fail "wprim") => `(tactic| (with_reducible refine Hs.R_lenSt ?_))
namespace Hs
open PySem DL L2
end Hs
local macro_rules | `(tactic| fail "wprim") => `(tactic| (with_reducible refine Hs.R_lenBk ?_))
namespace Hs
open PySem DL L2
end Hs
local macro_rules | `(tactic| fail "wprim") => `(tactic| (with_reducible refine Hs.R_lenSe ?_))
namespace Hs
open PySem DL L2
end Hs
local macro_rules | `(tactic| fail "wprim") => `(tactic| (with_reducible refine Hs.R_stg (by fail "wside") ?_))
namespace Hs
open PySem DL L2
end Hs
local macro_rules | `(tactic| fail "wprim") => `(tactic| (with_reducible refine Hs.R_seat (by fail "wside") ?_))
namespace Hs
open PySem DL L2
end Hs
local macro_rules | `(tactic| fail "wprim") => `(tactic| (with_reducible refine Hs.R_at (by fail "wside") ?_))
namespace Hs
open PySem DL L2
end Hs
local macro_rules | `(tactic| fail "wprim") => `(tactic| ((with_reducible refine Hs.R_sub0 (x := ?_) (r := ?_) ?_ ?_); rotate_left; rotate_left; rfl))
namespace Hs
open PySem DL L2
end Hs
local macro_rules | `(tactic| fail "wprim") => `(tactic| ((with_reducible refine Hs.R_sub1 (x := ?_) (y := ?_) (r := ?_) ?_ ?_); rotate_left; rotate_left; rotate_left; rfl))
namespace Hs
open PySem DL L2
end Hs
local macro_rules | `(tactic| fail "wprim") => `(tactic| ((with_reducible refine Hs.R_sub2 (x := ?_) (y := ?_) (z := ?_) (r := ?_) ?_ ?_); rotate_left; rotate_left; rotate_left; rotate_left; rfl))
namespace Hs
open PySem DL L2
theorem W_cut {o : Out} {P : Ps} (M : DL.Env → Store → Prop) (h1 : W o ⟨M, P.rt, P.bk, P.ct, P.ex⟩) (h2 : ∀ e S', M e S' → P.nx e S') : W o P := h1.imp h2 (fun _ _ z => z) (fun _ _ z => z) (fun _ _ z => z) (fun _ _ _ z => z)
theorem R_cut {α : Type} {r : Res α} {Q : α → Store → Prop} {X : Nat → D → Store → Prop} (M : α → Store → Prop) (h1 : R r M X) (h2 : ∀ d S', M d S' → Q d S') : R r Q X := h1.mono h2
theorem R_lst0 {F : FS} {env : DL.Env} {S : Store} {Q : D → Store → Prop} {X : Nat → D → Store → Prop} (h : Q (.list []) S) : R (DL.ev F (.lst false []) env S) Q X := R_lstF ⟨by simp, h⟩
theorem R_tup0 {F : FS} {env : DL.Env} {S : Store} {Q : D → Store → Prop} {X : Nat → D → Store → Prop} (h : Q (.tuple []) S) : R (DL.ev F (.tup []) env S) Q X := R_tup ⟨by simp, h⟩
theorem R_call0 {F : FS} {env : DL.Env} {S : Store} {l : List Ex} {f : Nat} {Q : D → Store → Prop} {X : Nat → D → Store → Prop} (h : R (evs F l env S) (fun xs S1 => R (F f xs S1) Q X) X) : R (DL.ev F (.call f l []) env S) Q X := R_call (h.mono fun xs S1 h => by rw [List.append_nil]; exact h)
end Hs
local macro_rules | `(tactic| fail "w0") => `(tactic| first
  | (with_reducible refine DL.W_cons ?_)
  | (with_reducible refine DL.W_asg ?_)
  | (with_reducible refine DL.W_ret ?_)
  | (with_reducible refine DL.W_exp ?_)
  | (with_reducible refine DL.W_setS ?_)
  | (with_reducible refine DL.W_nil ?_)
  | (with_reducible refine DL.W_pass ?_)
  | (with_reducible refine DL.W_brk ?_)
  | (with_reducible refine DL.W_cont ?_)
  | (with_reducible refine DL.W_raise ?_)
  | (with_reducible refine DL.W_tryC ?_)
  | ((with_reducible refine DL.W_aug (x := ?_) ?_ ?_); rotate_left; rfl)
  | (with_reducible refine DL.R_c ?_)
  | ((with_reducible refine DL.R_v (d := ?_) ?_ ?_); rotate_left; rfl)
  | (with_reducible refine DL.R_bin ?_)
  | (with_reducible refine DL.R_cmp ?_)
  | (with_reducible refine DL.R_sub ?_)
  | (with_reducible refine Hs.R_call0 ?_)
  | (with_reducible refine DL.R_call ?_)
  | (with_reducible refine DL.R_blt ?_)
  | (with_reducible refine DL.R_cons ?_)
  | (with_reducible refine DL.R_nil ?_)
  | (with_reducible refine Hs.R_lst0 ?_)
  | (with_reducible refine Hs.R_tup0 ?_)
  | (with_reducible refine DL.R_tup ?_)
  | (with_reducible refine DL.R_lstF ?_)
  | (with_reducible refine DL.R_not ?_)
  | (with_reducible refine DL.R_neg ?_)
  | (with_reducible refine DL.R_mth ?_)
  | (with_reducible refine DL.R_chain ?_)
  | (with_reducible refine DL.R_slc ?_)
  | (with_reducible refine DL.R_bnd0 ?_)
  | (with_reducible refine DL.R_all0 ?_)
  | (with_reducible refine DL.R_all1 ?_)
  | fail "wprim")
namespace Hs
open PySem DL L2
end Hs
local macro_rules | `(tactic| fail "wgx") => `(tactic| repeat fail "w0")
namespace Hs
open PySem DL L2
section
variable {Q : D → Store → Prop} {X : Nat → D → Store → Prop} {S : Store}
theorem dec_cast {p q : Prop} [Decidable p] [Decidable q] (h : p ↔ q) : decide p = decide q := decide_eq_decide.mpr h
theorem R_ltN {i j : Nat} (h : Q (.bool (decide (i < j))) S) : R (cmpV .Lt (.int (i : Int)) (.int (j : Int)) S) Q X := R_ltI (by rw [dec_cast (Int.ofNat_lt (n := i) (m := j))]; exact h)
theorem R_gtN {i j : Nat} (h : Q (.bool (decide (i > j))) S) : R (cmpV .Gt (.int (i : Int)) (.int (j : Int)) S) Q X := R_gtI (by rw [dec_cast (show ((i : Int) > (j : Int)) ↔ i > j by omega)]; exact h)
theorem R_leN {i j : Nat} (h : Q (.bool (decide (i ≤ j))) S) : R (cmpV .LtE (.int (i : Int)) (.int (j : Int)) S) Q X := R_leI (by rw [dec_cast (show ((i : Int) ≤ (j : Int)) ↔ i ≤ j by omega)]; exact h)
theorem R_geN {i j : Nat} (h : Q (.bool (decide (i ≥ j))) S) : R (cmpV .GtE (.int (i : Int)) (.int (j : Int)) S) Q X := R_geI (by rw [dec_cast (show ((i : Int) ≥ (j : Int)) ↔ i ≥ j by omega)]; exact h)
theorem R_eqN {i j : Nat} (h : Q (.bool (decide (i = j))) S) : R (cmpV .Eq (.int (i : Int)) (.int (j : Int)) S) Q X := R_eqI (by rw [dec_cast (show ((i : Int) = (j : Int)) ↔ i = j by omega)]; exact h)
theorem R_neN' {i j : Nat} (h : Q (.bool (decide (i ≠ j))) S) : R (cmpV .NotEq (.int (i : Int)) (.int (j : Int)) S) Q X := R_neI (by rw [dec_cast (show ((i : Int) ≠ (j : Int)) ↔ i ≠ j by omega)]; exact h)
theorem R_eqZ {i : Nat} (h : Q (.bool (decide (i = 0))) S) : R (cmpV .Eq (.int (i : Int)) (.int 0) S) Q X := R_eqI (by rw [dec_cast (show ((i : Int) = 0) ↔ i = 0 by omega)]; exact h)
variable {F : FS} {env : DL.Env}
/-- a comprehension that changes nothing, its test, its item -/
theorem R_compP {α : Type} {own : List Nat} {t : Tg} {k : IK} {its ifs : List Ex} {x : Ex} (enc : α → D) (p : α → Bool) (f : α → D)
    (h : R (evs F its env S) (fun vs S1 => ∃ (l : List α) (g : Option Nat), itemsV k vs S1 = .ok (l.map enc, g) S1 ∧ l.length ≤ 100000 ∧ still g S1 S1 = true ∧ (∀ y ∈ l, ∃ env', bindT t (enc y) (wipeE env own) = some env' ∧ R (evAll F ifs env' S1) (fun k S2 => S2 = S1 ∧ k = p y) nX ∧ (p y = true → R (ev F x env' S1) (fun d S2 => d = f y ∧ S2 = S1) nX)) ∧ Q (.list ((l.filter p).map f)) S1) X) : R (ev F (.comp false own t k its ifs x) env S) Q X := by
  refine R_comp enc (fun y => if p y then some (f y) else none) (h.mono fun vs S1 ⟨l, g, e1, hl, hs, hv, q⟩ => ⟨l, g, e1, hl, hs, fun y hy => ?_, by rw [fm_ifD]; exact q⟩)
  obtain ⟨env', e2, h1, h2⟩ := hv y hy
  refine ⟨env', e2, h1.mono fun k S2 ⟨z1, z2⟩ => ?_⟩
  subst z1; subst z2
  refine ⟨fun z => (h2 z).mono fun d S3 ⟨q1, q2⟩ => ⟨by rw [z, q1]; rfl, q2⟩, fun z => ⟨by rw [z]; rfl, rfl⟩⟩
theorem R_compM {α : Type} {own : List Nat} {t : Tg} {k : IK} {its : List Ex} {x : Ex} (enc : α → D) (f : α → D)
    (h : R (evs F its env S) (fun vs S1 => ∃ (l : List α) (g : Option Nat), itemsV k vs S1 = .ok (l.map enc, g) S1 ∧ l.length ≤ 100000 ∧ still g S1 S1 = true ∧ (∀ y ∈ l, ∃ env', bindT t (enc y) (wipeE env own) = some env' ∧ R (ev F x env' S1) (fun d S2 => d = f y ∧ S2 = S1) nX) ∧ Q (.list (l.map f)) S1) X) : R (ev F (.comp false own t k its [] x) env S) Q X := by
  refine R_compP enc (fun _ => true) f (h.mono fun vs S1 ⟨l, g, e1, hl, hs, hv, q⟩ => ⟨l, g, e1, hl, hs, fun y hy => ?_, by rw [show (l.filter fun _ => true) = l from List.filter_eq_self.mpr fun _ _ => rfl]; exact q⟩)
  obtain ⟨env', e2, h2⟩ := hv y hy
  exact ⟨env', e2, R_all0 ⟨rfl, rfl⟩, fun _ => h2⟩
end
theorem still_loc {S0 S : Store} {n : Nat} {xs : List D} (h0 : atL S0 n = some xs) (h : atL S n = some xs) : still (some n) S0 S = true := by
  simp only [still, h0, h]
  exact DL.beqL_refl xs
end Hs
local macro_rules | `(tactic| fail "wprim") => `(tactic| (with_reducible refine Hs.R_ltN ?_))
namespace Hs
open PySem DL L2
end Hs
local macro_rules | `(tactic| fail "wprim") => `(tactic| (with_reducible refine Hs.R_gtN ?_))
namespace Hs
open PySem DL L2
end Hs
local macro_rules | `(tactic| fail "wprim") => `(tactic| (with_reducible refine Hs.R_leN ?_))
namespace Hs
open PySem DL L2
end Hs
local macro_rules | `(tactic| fail "wprim") => `(tactic| (with_reducible refine Hs.R_geN ?_))
namespace Hs
open PySem DL L2
end Hs
local macro_rules | `(tactic| fail "wprim") => `(tactic| (with_reducible refine Hs.R_eqN ?_))
namespace Hs
open PySem DL L2
end Hs
local macro_rules | `(tactic| fail "wprim") => `(tactic| (with_reducible refine Hs.R_neN' ?_))
namespace Hs
open PySem DL L2
end Hs
local macro_rules | `(tactic| fail "wprim") => `(tactic| (with_reducible refine Hs.R_eqZ ?_))
namespace Hs
open PySem DL L2
/-- a def that changes nothing, it may raise -/
theorem pure_ofR {f : Store → Res D} {Qd : D → Prop} {Xd : Nat → D → Prop} {F : FS} {b : List Sm} {env : DL.Env} {S : Store} (hf : ∀ S, f S = DL.gc true S (DL.execs F b env S)) (hS : lsts S = true)
    (h : W (DL.execs F b env (S ++ [])) ⟨fun _ _ => False, fun d S' => ∃ Y, S' = S ++ Y ∧ ((locOf d = none ∧ gnd d = true ∧ Qd d) ∨ ∃ c xs, d = rf (S.length + c) ∧ atL Y c = some xs ∧ gndL xs = true ∧ Qd (.list xs)), fun _ _ => False, fun _ _ => False, fun c d S' => ∃ Y, S' = S ++ Y ∧ gnd d = true ∧ Xd c d⟩) : R (f S) (fun d S' => S' = S ∧ Qd d) (fun c d S' => S' = S ∧ Xd c d) := by
  rw [List.append_nil] at h
  rw [hf]
  cases e : DL.execs F b env S with
  | nx e2 S2 => rw [e] at h; exact h.elim
  | bk e2 S2 => rw [e] at h; exact h.elim
  | ct e2 S2 => rw [e] at h; exact h.elim
  | bad => rw [e] at h; exact h.elim
  | exc c d e2 S' =>
    rw [e] at h
    obtain ⟨Y, rfl, h1, h2⟩ := h
    have kp : keepable S (S ++ Y) S.length = true := near_keep hS (near_refl S Y)
    have bl : below S.length d = true := below_gnd h1
    have : DL.gc true S (.exc c d e2 (S ++ Y)) = .exc c d S := by
      simp only [DL.gc, kp, bl, Bool.and_self, if_true, List.take_left']
    rw [this]
    exact ⟨rfl, h2⟩
  | rt d S' =>
    rw [e] at h
    obtain ⟨Y, rfl, ⟨h1, h2, h3⟩ | ⟨c, xs, rfl, h1, h2, h3⟩⟩ := h
    · rw [gc_pure hS Y h2 h1]; exact ⟨rfl, h3⟩
    · rw [gc_pureL hS Y h1 h2]; exact ⟨rfl, h3⟩
theorem pure_ofN {f : Store → Res D} {Qd : D → Prop} {F : FS} {b : List Sm} {env : DL.Env} {S : Store} (hf : ∀ S, f S = DL.gc true S (DL.execs F b env S)) (hS : lsts S = true)
    (h : W (DL.execs F b env (S ++ [])) ⟨fun _ _ => False, fun d S' => ∃ Y, S' = S ++ Y ∧ ((locOf d = none ∧ gnd d = true ∧ Qd d) ∨ ∃ c xs, d = rf (S.length + c) ∧ atL Y c = some xs ∧ gndL xs = true ∧ Qd (.list xs)), fun _ _ => False, fun _ _ => False, nX⟩) : ∃ d, f S = .ok d S ∧ Qd d := by
  have := pure_ofR (Xd := fun _ _ => False) hf hS (h.imp (fun _ _ z => z) (fun _ _ z => z) (fun _ _ z => z) (fun _ _ z => z) fun _ _ _ z => z.elim)
  cases e : f S with
  | ok d S' =>
    rw [e] at this
    obtain ⟨rfl, q⟩ := this
    exact ⟨d, rfl, q⟩
  | exc c d S' => rw [e] at this; exact this.2.elim
  | bad => rw [e] at this; exact this.elim
end Hs

set_option linter.all false
set_option maxRecDepth 100000
/-! Lw.A: the box. -/
namespace Lw
open PySem DL L2 Hs
def bxQ (S : Store) : D → Store → Prop := fun d S' => ∃ a b : Int, d = rf S.length ∧ S' = S ++ [.lst [.int a, .int b]]
theorem R_ro {Q : D → Store → Prop} {X : Nat → D → Store → Prop} {S : Store} {ns : List Int} {i : Nat} (hi : i < ns.length) (h : ∀ x, Q (.int x) S) : R (subV (ro ns) (.int (i : Int)) S) Q X := R_map (f := PyData.int) rfl (List.getElem?_eq_getElem hi) (h _)
theorem R_lenRo {Q : D → Store → Prop} {X : Nat → D → Store → Prop} {S : Store} {ns : List Int} {m : Bool} (h : Q (.int (ns.length : Int)) S) : R (bltV .len m [ro ns] S) Q X := R_lenMap (f := PyData.int) rfl h
end Lw
local macro_rules | `(tactic| fail "wprim") => `(tactic| (with_reducible refine Lw.R_lenRo ?_))
namespace Lw
open PySem DL L2 Hs
theorem box_body (n : Nat) (ns : List Int) (k : Nat) (S : Store) : W (DL.execs (DL.run tab n) b__law_box [some (ro ns), some (.int (k : Int)), none, none] S) ⟨fun _ _ => False, bxQ S, fun _ _ => False, fun _ _ => False, nX⟩ := by
  unfold b__law_box
  fail "wgx"
  refine ⟨_, rfl, ?_⟩
  fail "wgx"
  with_reducible refine W_cut (fun e S' => S' = S ∧ ∃ cell : Int, e = [some (ro ns), some (.int (k : Int)), some (.int cell), none]) ?_ ?_
  · refine W_ifs ?_
    fail "wgx"
    refine ⟨_, rfl, fun h1 => ?_, fun h1 => ?_⟩
    · fail "wgx"
      refine R_ro (by simpa using h1) fun x => ?_
      fail "wgx"
      exact ⟨_, rfl, rfl, _, rfl⟩
    · fail "wgx"
      with_reducible refine W_ifs ?_
      fail "wgx"
      refine ⟨_, rfl, fun h2 => ?_, fun h2 => ?_⟩
      · have h3 : 0 < ns.length := by simpa using h2
        fail "wgx"
        rw [← Int.natCast_emod]
        refine R_ro (Nat.mod_lt _ h3) fun x => ?_
        fail "wgx"
        exact ⟨_, rfl, rfl, _, rfl⟩
      · fail "wgx"
        exact ⟨rfl, _, rfl⟩
  · rintro e S' ⟨rfl, cell, rfl⟩
    fail "wgx"
    with_reducible refine R_cut (fun d S2 => S2 = S' ∧ ∃ g : Int, d = .int g) ?_ ?_
    · fail "wgo"
      refine ⟨_, rfl, fun _ => ?_, fun _ => ?_⟩
      · fail "wgo"; exact ⟨rfl, _, rfl⟩
      · fail "wgo"; exact ⟨rfl, _, rfl⟩
    · rintro d S2 ⟨rfl, g, rfl⟩
      refine ⟨_, rfl, ?_⟩
      fail "wgx"
      refine R_lstT ?_
      fail "wgx"
      exact ⟨by simp, _, _, rfl, rfl⟩
theorem box_eq (n : Nat) (ns : List Int) (k : Nat) (S : Store) : ∃ a b : Int, DL.run tab (n + 1) 7 [ro ns, .int (k : Int)] S = .ok (rf S.length) (S ++ [.lst [.int a, .int b]]) := by
  rw [r__law_box]
  have h := box_body n ns k S
  cases e : DL.execs (DL.run tab n) b__law_box [some (ro ns), some (.int (k : Int)), none, none] S with
  | rt d S' =>
    rw [e] at h
    obtain ⟨a, b, rfl, rfl⟩ := h
    exact ⟨a, b, by simp [DL.gc, handOut, below]⟩
  | nx e2 S2 => rw [e] at h; exact h.elim
  | bk e2 S2 => rw [e] at h; exact h.elim
  | ct e2 S2 => rw [e] at h; exact h.elim
  | exc c d e2 S2 => rw [e] at h; exact h.elim
  | bad => rw [e] at h; exact h.elim
theorem loc_rf (k : Nat) : locOf (rf k) = some k := by simp [locOf]
theorem seq_rf {S : Store} {k : Nat} {xs : List D} (h : atL S k = some xs) : seqOf S (rf k) = some xs := by
  show atL S (k : Int).toNat = some xs
  rw [Int.toNat_natCast]; exact h
def takeP (m : Nat) : D → Prop := fun d => ∃ i : Nat, d = .int (i : Int) ∧ i < m
theorem take_d (n k : Nat) {m : Nat} (hm : 0 < m) (hm2 : m < 1073741824) : Drw k (DL.run tab (n + 1) 8 [rf k, .int (m : Int)]) (takeP m) := by
  refine Drw.of (fun S => r__law_take n (rf k) (.int (m : Int)) S) fun S H hS => ?_
  have hm' : (0 : Int) < m := by omega
  have hm2' : (m : Int) < 1073741824 := by omega
  rw [List.append_nil]
  obtain ⟨a, b, hab⟩ := H.at_
  have hk : k < S.length := H.1
  have nn : ∀ x : Int, takeP m (.int (x % (m : Int))) := fun x => by
    have h1 := Int.emod_nonneg x (show (m : Int) ≠ 0 by omega)
    have h2 := Int.emod_lt_of_pos x hm'
    refine ⟨(x % (m : Int)).toNat, ?_, by omega⟩
    rw [Int.toNat_of_nonneg h1]
  have fin : ∀ (x p q : Int), RtB S k (takeP m) (.int (x % (m : Int))) (setL S k [.int p, .int q]) := fun x p q => ⟨_, [], (List.append_nil _).symm, H.set p q, .inl ⟨rfl, rfl, nn x⟩⟩
  have sb0 : ∀ {p q : Int} {S' : Store} {Q : D → Store → Prop} {X : Nat → D → Store → Prop}, atL S' k = some [.int p, .int q] → Q (.int p) S' → R (subV (rf k) (.int 0) S') Q X := fun h q => R_sub0 (seq_rf h) q
  have sb1 : ∀ {p q : Int} {S' : Store} {Q : D → Store → Prop} {X : Nat → D → Store → Prop}, atL S' k = some [.int p, .int q] → Q (.int q) S' → R (subV (rf k) (.int 1) S') Q X := fun h q => R_sub1 (seq_rf h) q
  have st0 : ∀ x : Int, setItemV (rf k) (.int 0) (.int x) S = some (setL S k [.int x, .int b]) := fun x => by
    simp only [setItemV, loc_rf, hab]; rfl
  have st1 : ∀ x : Int, setItemV (rf k) (.int 1) (.int x) S = some (setL S k [.int a, .int x]) := fun x => by
    simp only [setItemV, loc_rf, hab]; rfl
  unfold b__law_take
  fail "wgx"
  with_reducible refine W_ifs ?_
  fail "wgx"
  refine sb0 hab ?_
  fail "wgx"
  refine ⟨_, rfl, fun h1 => ?_, fun h1 => ?_⟩
  · fail "wgx"
    refine sb0 hab ?_
    fail "wgx"
    refine ⟨_, rfl, ?_⟩
    fail "wgx"
    refine sb0 hab ?_
    fail "wgx"
    refine ⟨_, st0 _, ?_⟩
    fail "wgx"
    exact fin _ _ _
  · fail "wgx"
    refine sb1 hab ?_
    fail "wgx"
    refine ⟨_, rfl, ?_⟩
    fail "wgx"
    refine ⟨_, st1 _, ?_⟩
    fail "wgx"
    have ab2 : ∀ x : Int, atL (setL S k [.int a, .int x]) k = some [.int a, .int x] := fun x => by simp [atL, setL, hk]
    refine sb1 (ab2 _) ?_
    fail "wgx"
    exact fin _ _ _
def pickP {α : Type} (f : α → D) (l : List α) : D → Prop := fun d => ∃ a, a ∈ l ∧ d = f a
theorem pick_d (n k : Nat) {α : Type} {f : α → D} {l : List α} (hl : l ≠ []) (hz : l.length ≤ 100000) (hg : ∀ a, gnd (f a) = true) (hn : ∀ a, locOf (f a) = none) {d : D} (hd : ∀ S, seqOf S d = some (l.map f)) : Drw k (DL.run tab (n + 2) 9 [rf k, d]) (pickP f l) := by
  refine Drw.of (fun S => r__law_pick (n + 1) (rf k) d S) fun S H hS => ?_
  unfold b__law_pick
  have : 0 < l.length := List.length_pos_iff.mpr hl
  fail "wgx"
  refine R_lenMap (hd _) ?_
  fail "wgx"
  refine R_drw (take_d n k this (by omega)) H hS rfl ?_
  rintro d S2 ⟨i, rfl, hi⟩ H2
  refine R_map (hd _) (List.getElem?_eq_getElem hi) ?_
  exact ⟨S2, [], rfl, H2, .inl ⟨hn _, hg _, _, List.getElem_mem _, rfl⟩⟩
end Lw

set_option linter.all false
set_option maxRecDepth 100000
/-! Lw.B: shuffled. -/
namespace Lw
open PySem DL L2 Hs
theorem gndN (l : List Nat) : gndL (l.map nD) = true := gndL_map gnd_nD l
theorem erase_map {α β : Type} (f : α → β) : ∀ (l : List α) (i : Nat), (l.map f).eraseIdx i = (l.eraseIdx i).map f
  | [], _ => rfl
  | a :: l, 0 => rfl
  | a :: l, i + 1 => by simp [erase_map f l i]
theorem perm_er : ∀ {l : List Nat} {i : Nat} (h : i < l.length), (l[i] :: l.eraseIdx i).Perm l
  | [], _, h => absurd h (Nat.not_lt_zero _)
  | a :: l, 0, h => List.Perm.refl _
  | a :: l, i + 1, h => by
    have := perm_er (l := l) (i := i) (by simpa using h)
    exact (List.Perm.swap _ _ _).trans (this.cons a)
theorem perm_erase {l : List Nat} {i : Nat} (h : i < l.length) (f : List Nat) : ((f ++ [l[i]]) ++ l.eraseIdx i).Perm (f ++ l) := by
  rw [List.append_assoc]
  refine List.Perm.append_left f ?_
  exact perm_er h
def shufP (X : List Nat) : D → Prop := fun d => ∃ l : List Nat, d = .list (l.map nD) ∧ l.Perm X
theorem shuf_d (n k : Nat) {X : List Nat} (hz : X.length ≤ 1000) : Drw k (DL.run tab (n + 2) 10 [rf k, .list (X.map nD)]) (shufP X) := by
  refine Drw.of (fun S => r__law_shuffled (n + 1) (rf k) (.list (X.map nD)) S) fun S H hS => ?_
  unfold b__law_shuffled
  fail "wgx"
  refine R_listT rfl rfl (xs := X.map nD) rfl (by rw [List.length_map]; omega) ?_
  fail "wgx"
  refine R_newL rfl rfl ?_
  fail "wgx"
  refine ⟨rfl, by simp, ?_⟩
  fail "wgx"
  refine ⟨by simp, _, rfl, ?_⟩
  fail "wgx"
  with_reducible refine W_frl (α := Nat) nD (fun l env S' => ∃ (left found : List Nat) (S1 : Store) (t : Option D), env = [some (rf k), some (.list (X.map nD)), some (rf (S.length + 0)), some (rf (S.length + 1)), t] ∧ S' = S1 ++ [.lst (left.map nD), .lst (found.map nD)] ∧ Bx S k S1 ∧ (found ++ left).Perm X ∧ left.length = l.length) ?_
  fail "wgx"
  refine R_lenMap (f := nD) rfl ?_
  fail "wgx"
  refine ⟨List.range X.length, none, rng1_n (by omega) _, ⟨X, [], S, none, rfl, rfl, H, List.Perm.refl _, by simp⟩, fun _ _ _ _ => rfl, ?_, ?_⟩
  · rintro y r env S2 ⟨left, found, S1, t, rfl, rfl, HB, hp, hlen⟩
    refine ⟨_, rfl, ?_⟩
    have hl := HB.len
    have hL : left.length ≤ 1000 := by
      have := hp.length_eq
      rw [List.length_append] at this
      omega
    have hF : found.length ≤ 1000 := by
      have := hp.length_eq
      rw [List.length_append] at this
      omega
    have h0 : 0 < left.length := by rw [hlen]; simp
    fail "wgx"
    refine ⟨by rw [lst_loc hl (c := 1) rfl]; rfl, ?_⟩
    fail "wgx"
    refine ⟨by rw [lst_loc hl (c := 0) rfl]; rfl, ?_⟩
    fail "wgx"
    refine R_lenL hl (c := 0) rfl ?_
    rw [List.length_map]
    fail "wgx"
    refine R_drw (take_d n k h0 (by omega)) HB hS rfl ?_
    rintro d S3 ⟨i, rfl, hi⟩ H3
    have hl3 := H3.len
    fail "wgx"
    refine R_popAt hl3 (c := 0) (xs := left.map nD) rfl (v := nD left[i]) (map_get (List.getElem?_eq_getElem hi)) ?_
    fail "wgx"
    refine R_append hl3 (c := 1) (xs := found.map nD) rfl (by rw [List.length_map]; omega) ?_
    fail "wgx"
    refine ⟨left.eraseIdx i, found ++ [left[i]], S3, _, rfl, ?_, H3, (perm_erase hi found).trans hp, ?_⟩
    · rw [erase_map]
      simp [setL]
    · rw [List.length_eraseIdx_of_lt hi, hlen]; rfl
  · rintro env S2 ⟨left, found, S1, t, rfl, rfl, HB, hp, hlen⟩
    fail "wgx"
    have : left = [] := List.length_eq_zero_iff.mp hlen
    subst this
    rw [List.append_nil] at hp
    exact ⟨S1, _, rfl, HB, .inr ⟨1, found.map nD, rfl, rfl, gndN _, found, rfl, hp⟩⟩
end Lw

set_option linter.all false
set_option maxRecDepth 100000
/-! Lw.C: the stuck lot. -/
namespace Lw
open PySem DL L2 Hs
def wD : Option Nat → D
  | none => .none
  | some q => nD q
/-- a stand whose guests' wishes are stages -/
structure Sw (h : H) (st : Stand) : Prop where
  len : st.length = h.seats.length
  z : st.length ≤ 1000
  w : ∀ p, p < st.length → ∀ g ∈ at_ st p, ∀ t, g.2 = some t → t < h.stages.length
  le : ∀ p, p < st.length → (at_ st p).length ≤ seat h p
  le2 : ∀ p, p < st.length → seat h p ≤ 1000
section
variable {h : H} {st : Stand} {S : Store}
theorem want_eq (n : Nat) {g : G} (hw : ∀ t, g.2 = some t → t < h.stages.length) : DL.run tab (n + 1) 0 [hD h, gD g] S = .ok (wD (wnt h g)) S := by
  refine pure_same (fun S => r_wanted_place n _ _ S) ?_
  obtain ⟨s, _ | t⟩ := g
  · unfold b_wanted_place
    fail "wgo"
    refine ⟨_, rfl, fun _ => ?_, fun k => ?_⟩
    · fail "wgo"; exact ⟨rfl, rfl⟩
    · exact absurd k (by simp [nI])
  · unfold b_wanted_place
    fail "wgo"
    refine ⟨_, rfl, fun k => ?_, fun k => ?_⟩
    · exact absurd k (by simp [nI])
    · fail "wgo"
      refine R_stg (s := t) (hw t rfl) ?_
      fail "wgo"
      exact ⟨rfl, rfl⟩
theorem lwant_eq (n : Nat) {g : G} (hw : ∀ t, g.2 = some t → t < h.stages.length) : DL.run tab (n + 1) 12 [hD h, gD g] S = .ok (wD (wnt h g)) S := by
  refine pure_same (fun S => r__law_want n _ _ S) ?_
  obtain ⟨s, _ | t⟩ := g
  · unfold b__law_want
    fail "wgo"
    refine ⟨_, rfl, ?_⟩
    fail "wgo"
    refine ⟨_, rfl, fun _ => ?_, fun k => ?_⟩
    · fail "wgo"; exact ⟨rfl, rfl⟩
    · exact absurd k (by simp [nI])
  · unfold b__law_want
    fail "wgo"
    refine ⟨_, rfl, ?_⟩
    fail "wgo"
    refine ⟨_, rfl, fun k => ?_, fun k => ?_⟩
    · exact absurd k (by simp [nI])
    · fail "wgo"
      refine R_stg (s := t) (hw t rfl) ?_
      fail "wgo"
      exact ⟨rfl, rfl⟩
theorem room_eq (n : Nat) (V : Sw h st) {p : Nat} (hp : p < st.length) : DL.run tab (n + 1) 1 [hD h, standD st, nD p] S = .ok (.bool (decide ((at_ st p).length < seat h p))) S := by
  refine pure_same (fun S => r_has_room n _ _ _ S) ?_
  have hq : p < h.seats.length := V.len ▸ hp
  unfold b_has_room
  fail "wgo"
  exact ⟨rfl, rfl⟩
/-- is a wish in a lot -/
def inl (X : List Nat) : Option Nat → Bool
  | none => false
  | some q => decide (q ∈ X)
theorem R_inW {Q : D → Store → Prop} {X : Nat → D → Store → Prop} {l : List Nat} {w : Option Nat} {d : D} (hs : seqOf S d = some (l.map nD)) (k : Q (.bool (inl l w)) S) : R (cmpV .In (wD w) d S) Q X := by
  cases w with
  | none => exact R_noneInN hs k
  | some q => exact R_inN hs k
theorem R_notinW {Q : D → Store → Prop} {X : Nat → D → Store → Prop} {l : List Nat} {w : Option Nat} {d : D} (hs : seqOf S d = some (l.map nD)) (k : Q (.bool (!inl l w)) S) : R (cmpV .NotIn (wD w) d S) Q X := by
  cases w with
  | none => exact R_noneNotinN hs k
  | some q => exact R_notinN hs k
theorem holds_inl {X : List Nat} {p : Nat} : holds h st X p = (at_ st p).all fun g => inl X (wnt h g) := by
  unfold holds
  congr 1
theorem held_eq (n : Nat) (V : Sw h st) {p : Nat} (hp : p < st.length) (X : List Nat) : DL.run tab (n + 2) 2 [hD h, standD st, nD p, .list (X.map nD)] S = .ok (.bool (holds h st X p)) S := by
  refine pure_same (fun S => r_are_held (n + 1) _ _ _ _ S) ?_
  unfold b_are_held
  fail "wgo"
  with_reducible refine R_compM gD (fun g => .bool (inl X (wnt h g))) ?_
  fail "wgo"
  refine ⟨at_ st p, none, val_n rfl rfl, ?_, rfl, fun g hg => ⟨_, rfl, ?_⟩, ?_⟩
  · have := V.le p hp; have := V.le2 p hp; omega
  · fail "wgo"
    refine R_eq (want_eq n (V.w p hp g hg)) ?_
    fail "wgo"
    exact R_inW rfl ⟨rfl, rfl⟩
  · fail "wgo"
    refine R_all ?_
    rw [holds_inl]
    exact ⟨rfl, rfl⟩
theorem fulls_lt : ∀ p ∈ fulls h st, p < st.length := fun p hp => List.mem_range.mp (List.mem_filter.mp hp).1
theorem stuck_eq (n : Nat) (V : Sw h st) : DL.run tab (n + 3) 3 [hD h, standD st] S = .ok (.tuple ((Stk h st).map nD)) S := by
  refine pure_same (fun S => r_stuck_lot (n + 2) _ _ S) ?_
  unfold b_stuck_lot
  have hf : (List.range st.length).filter (fun p => !decide ((at_ st p).length < seat h p)) = fulls h st := by
    unfold fulls
    refine List.filter_congr fun p hp => ?_
    have h1 := V.le p (List.mem_range.mp hp)
    unfold isFull
    by_cases c : (at_ st p).length = seat h p
    · simp [c]
    · have : (at_ st p).length < seat h p := by omega
      simp [c, this]
  fail "wgo"
  with_reducible refine R_compP nD (fun p => !decide ((at_ st p).length < seat h p)) nD ?_
  fail "wgo"
  refine ⟨List.range st.length, none, rng1_n (by have := V.z; omega) _, by have := V.z; simp; omega, rfl, fun p hp => ⟨_, rfl, ?_, fun _ => ?_⟩, ?_⟩
  · fail "wgo"
    refine R_eq (room_eq (n + 1) V (List.mem_range.mp hp)) ?_
    exact ⟨_, rfl, _, rfl, rfl, rfl⟩
  · fail "wgo"
    exact ⟨rfl, rfl⟩
  · rw [hf]
    fail "wgo"
    refine ⟨by simp, _, rfl, ?_⟩
    fail "wgo"
    with_reducible refine W_whl (fun m env S' => ∃ (X : List Nat) (t : Option D), S' = S ∧ X.length ≤ st.length ∧ (∀ p ∈ X, p < st.length) ∧ ((env = [some (hD h), some (standD st), some .none, some (.list (X.map nD)), t] ∧ m = st.length + 2 ∧ X = fulls h st) ∨ ∃ X0 : List Nat, env = [some (hD h), some (standD st), some (.list (X0.map nD)), some (.list (X.map nD)), t] ∧ m = X0.length + 1 ∧ X = nar h st X0 ∧ X0.length ≤ st.length ∧ gf h st (st.length + 1) X0 = Stk h st)) (st.length + 2) ?_ ?_ ?_
    · have := V.z
      show _ < 1000000
      omega
    · exact ⟨fulls h st, _, rfl, fulls_len, fulls_lt, .inl ⟨rfl, rfl, rfl⟩⟩
    · rintro m env S' ⟨X, t, rfl, hX, hlt, h1⟩
      have comp : ∀ (t : Option D) (Q : D → Store → Prop), Q (.list ((nar h st X).map nD)) S' → R (DL.ev (DL.run tab (n + 2)) (.comp false [4] (.nm 4) .val [(.v 2)] [(.call 2 [(.v 0), (.v 1), (.v 4), (.v 2)] [])] (.v 4)) [some (hD h), some (standD st), some (.list (X.map nD)), some (.list (X.map nD)), t] S') Q nX := by
        intro t Q q
        with_reducible refine R_compP nD (holds h st X) nD ?_
        fail "wgo"
        refine ⟨X, none, val_n rfl rfl, by have := V.z; omega, rfl, fun p hp => ⟨_, rfl, ?_, fun _ => ?_⟩, q⟩
        · fail "wgo"
          refine R_eq (held_eq n V (hlt p hp) X) ?_
          exact ⟨_, rfl, rfl, rfl⟩
        · fail "wgo"
          exact ⟨rfl, rfl⟩
      rcases h1 with ⟨rfl, rfl, hXf⟩ | ⟨X0, rfl, rfl, hXn, hX0, hg⟩
      · fail "wgo"
        refine R_neLN (pl_map nD_pl) ?_
        refine ⟨_, rfl, fun _ => ?_, fun k => absurd k (by simp)⟩
        fail "wgo"
        refine ⟨_, rfl, ?_⟩
        fail "wgo"
        refine comp _ _ ?_
        refine ⟨_, rfl, ?_⟩
        fail "wgo"
        exact ⟨X.length + 1, by omega, nar h st X, t, rfl, Nat.le_trans (nar_len X) hX, fun p hp => hlt p (List.mem_filter.mp hp).1, .inr ⟨X, rfl, rfl, rfl, hX, by rw [hXf]; rfl⟩⟩
      · fail "wgo"
        refine R_neN ?_
        refine ⟨_, rfl, fun k => ?_, fun k => ?_⟩
        · have hne : ¬ X = X0 := by simpa using k
          have hlen : X.length < X0.length := by rw [hXn]; exact nar_lt (by rw [← hXn]; exact hne)
          fail "wgo"
          refine ⟨_, rfl, ?_⟩
          fail "wgo"
          refine comp _ _ ?_
          refine ⟨_, rfl, ?_⟩
          fail "wgo"
          exact ⟨X.length + 1, by omega, nar h st X, t, rfl, Nat.le_trans (nar_len X) hX, fun p hp => hlt p (List.mem_filter.mp hp).1, .inr ⟨X, rfl, rfl, rfl, hX, by rw [← hg, hXn, gf_step (by omega)]⟩⟩
        · have he : X = X0 := by simpa using k
          subst he
          fail "wgo"
          refine R_tuple rfl ?_
          rw [← hg, gf_end hXn.symm]
          exact ⟨rfl, rfl⟩
theorem Stk_def : gf h st (st.length + 1) (fulls h st) = Stk h st := rfl
def seqN (S : Store) (d : D) (X : List Nat) : Prop := seqOf S d = some (X.map nD)
/-- the law's lot, as it stands or a list of its own -/
def lotD (L : Nat) (Y : Store) (d : D) (X : List Nat) : Prop := d = .list (X.map nD) ∨ ∃ c, d = rf (L + c) ∧ atL Y c = some (X.map nD)
theorem lotD.seq {S Y : Store} {d : D} {X : List Nat} (h : lotD S.length Y d X) : seqOf (S ++ Y) d = some (X.map nD) := by
  rcases h with rfl | ⟨c, rfl, h⟩
  · rfl
  · exact seq_loc rfl h
theorem lotD.add {L : Nat} {Y : Store} {d : D} {X : List Nat} (h : lotD L Y d X) (Z : Store) : lotD L (Y ++ Z) d X := by
  rcases h with rfl | ⟨c, rfl, h⟩
  · exact .inl rfl
  · refine .inr ⟨c, rfl, ?_⟩
    unfold atL at h ⊢
    have : c < Y.length := by
      by_cases q : c < Y.length
      · exact q
      · rw [List.getElem?_eq_none (by omega)] at h; cases h
    rw [List.getElem?_append_left this]; exact h
theorem lotD.walk {S Y : Store} {d : D} {X : List Nat} (h : lotD S.length Y d X) : ∃ g, itemsV .val [d] (S ++ Y) = .ok (X.map nD, g) (S ++ Y) ∧ ∀ Y2, lotD S.length Y2 d X → still g (S ++ Y) (S ++ Y2) = true := by
  refine ⟨locOf d, ?_, fun Y2 h2 => ?_⟩
  · show valI [d] (S ++ Y) = _
    simp only [valI, h.seq]
  · rcases h with rfl | ⟨c, rfl, h⟩
    · rfl
    · rw [DL.loc_rf]
      refine still_loc (xs := X.map nD) ?_ ?_
      · rw [atL_loc rfl]; exact h
      · rcases h2 with h2 | ⟨c', e, h2⟩
        · cases h2
        · rw [atL_loc rfl]
          have : c' = c := by
            have := congrArg locOf e
            rw [DL.loc_rf, DL.loc_rf] at this
            simpa using this.symm
          rw [← this]; exact h2
theorem lstuck_eq (n : Nat) (hS : lsts S = true) (V : Sw h st) : DL.run tab (n + 2) 13 [hD h, standD st] S = .ok (.list ((Stk h st).map nD)) S := by
  refine pure_of (fun S => r__law_stuck (n + 1) _ _ S) hS ?_
  unfold b__law_stuck
  fail "wgo"
  with_reducible refine R_compP nD (fun p => decide ((at_ st p).length = seat h p)) nD ?_
  fail "wgo"
  refine ⟨List.range st.length, none, rng1_n (by have := V.z; omega) _, by have := V.z; simp; omega, rfl, fun p hp => ⟨_, rfl, ?_, fun _ => ?_⟩, ?_⟩
  · have hp1 := List.mem_range.mp hp
    have hq : p < h.seats.length := V.len ▸ hp1
    fail "wgo"
    exact ⟨_, rfl, rfl, rfl⟩
  · fail "wgo"
    exact ⟨rfl, rfl⟩
  · rw [show (List.range st.length).filter (fun p => decide ((at_ st p).length = seat h p)) = fulls h st from rfl]
    refine ⟨_, rfl, ?_⟩
    fail "wgx"
    with_reducible refine W_cut (fun e S' => ∃ (Y : Store) (ld : D) (x3 x4 x5 x6 : Option D), S' = S ++ Y ∧ e = [some (hD h), some (standD st), some ld, x3, x4, x5, x6] ∧ lotD S.length Y ld (Stk h st)) ?_ ?_
    · with_reducible refine W_frl (α := Nat) nD (fun l env S' => ∃ (X : List Nat) (Y : Store) (ld : D) (x3 x4 x5 x6 : Option D), S' = S ++ Y ∧ env = [some (hD h), some (standD st), some ld, x3, x4, x5, x6] ∧ lotD S.length Y ld X ∧ X.length ≤ st.length ∧ (∀ p ∈ X, p < st.length) ∧ gf h st (st.length + 1) X = Stk h st ∧ X.length < l.length) ?_
      fail "wgx"
      refine ⟨List.range (st.length + 1), none, rng1_n (by have := V.z; omega) _, ⟨fulls h st, [], .list ((fulls h st).map nD), none, none, none, none, by rw [List.append_nil], rfl, Or.inl rfl, fulls_len, fulls_lt, Stk_def, by rw [List.length_range]; have := fulls_len (h := h) (st := st); omega⟩, fun _ _ _ _ => rfl, ?_, ?_⟩
      · rintro y r env S2 ⟨X, Y, ld, x3, x4, x5, x6, rfl, rfl, hld, hX, hlt, hg, hr⟩
        refine ⟨_, rfl, ?_⟩
        fail "wgx"
        refine R_newL rfl rfl ?_
        fail "wgx"
        refine ⟨rfl, by simp, ?_⟩
        refine ⟨_, rfl, ?_⟩
        fail "wgx"
        have hnl : (nar h st X).length ≤ 1000 := by have := nar_len (h := h) (st := st) X; have := V.z; omega
        have atK : ∀ K : List Nat, atL (Y ++ [.lst (K.map nD)]) Y.length = some (K.map nD) := fun K => by simp [atL]
        with_reducible refine W_cut (fun e S' => ∃ (x3 x6 : Option D), S' = S ++ (Y ++ [.lst ((nar h st X).map nD)]) ∧ e = [some (hD h), some (standD st), some ld, x3, some (nD y), some (rf (S.length + Y.length)), x6]) ?_ ?_
        · obtain ⟨g, hw, hs⟩ := (hld.add [.lst []]).walk
          with_reducible refine W_frl (α := Nat) nD (fun l env S' => ∃ (K : List Nat) (x3 x6 : Option D), S' = S ++ (Y ++ [.lst (K.map nD)]) ∧ env = [some (hD h), some (standD st), some ld, x3, some (nD y), some (rf (S.length + Y.length)), x6] ∧ K ++ l.filter (holds h st X) = nar h st X ∧ ∀ p ∈ l, p < st.length) ?_
          fail "wgx"
          refine ⟨X, g, hw, ⟨[], x3, x6, rfl, rfl, rfl, hlt⟩, ?_, ?_, ?_⟩
          · rintro l env S3 ⟨K, x3, x6, rfl, -, -, -⟩
            exact hs _ (hld.add _)
          · rintro p q env S3 ⟨K, x3, x6, rfl, rfl, hk, hq⟩
            refine ⟨_, rfl, ?_⟩
            have hp : p < st.length := hq p List.mem_cons_self
            have hKl : K.length ≤ 1000 := by
              have := congrArg List.length hk
              rw [List.length_append] at this
              omega
            fail "wgx"
            with_reducible refine W_ifs ?_
            fail "wgx"
            with_reducible refine R_compP gD (fun g => !inl X (wnt h g)) (fun _ => .int 1) ?_
            fail "wgx"
            refine ⟨at_ st p, none, val_n rfl rfl, by have := V.le p hp; have := V.le2 p hp; omega, rfl, fun g hg => ⟨_, rfl, ?_, fun _ => ?_⟩, ?_⟩
            · fail "wgx"
              refine R_eq (lwant_eq n (V.w p hp g hg)) ?_
              fail "wgx"
              refine R_notinW (hld.add _).seq ?_
              exact ⟨_, rfl, rfl, rfl⟩
            · fail "wgx"
              exact ⟨rfl, rfl⟩
            · fail "wgx"
              refine R_eqNilF (f := fun _ : G => PyData.int 1) (fun _ => rfl) ?_
              have hh : ((at_ st p).filter fun g => !inl X (wnt h g)).isEmpty = holds h st X p := by
                rw [holds_inl, Bool.eq_iff_iff]
                simp
              rw [hh]
              refine ⟨_, rfl, fun k => ?_, fun k => ?_⟩
              · fail "wgx"
                refine ⟨by rw [lst_loc rfl (atK K)]; rfl, ?_⟩
                fail "wgx"
                refine R_append rfl (atK K) (by rw [List.length_map]; omega) ?_
                fail "wgx"
                refine ⟨K ++ [p], _, _, ?_, rfl, ?_, fun x hx => hq x (List.mem_cons_of_mem _ hx)⟩
                · simp [setL]
                · rw [← hk, List.filter_cons_of_pos k, List.append_assoc]; rfl
              · fail "wgx"
                refine ⟨K, _, _, rfl, rfl, ?_, fun x hx => hq x (List.mem_cons_of_mem _ hx)⟩
                rw [← hk, List.filter_cons_of_neg (by rw [k]; exact Bool.false_ne_true)]
          · rintro env S3 ⟨K, x3, x6, rfl, rfl, hk, hq⟩
            rw [show K = nar h st X by simpa using hk]
            exact ⟨_, _, rfl, rfl⟩
        · rintro e S' ⟨x3, x6, rfl, rfl⟩
          fail "wgx"
          with_reducible refine W_ifs ?_
          fail "wgx"
          refine R_lenL rfl (atK _) ?_
          rw [List.length_map]
          fail "wgx"
          refine R_lenMap (f := nD) (hld.add _).seq ?_
          fail "wgx"
          refine ⟨_, rfl, fun k => ?_, fun k => ?_⟩
          · have k1 : (nar h st X).length = X.length := by simpa using k
            have k2 : nar h st X = X := List.filter_sublist.eq_of_length k1
            fail "wgx"
            refine ⟨_, ld, _, _, _, _, rfl, rfl, ?_⟩
            rw [← hg, gf_end k2]
            exact hld.add _
          · have k1 : ¬ (nar h st X).length = X.length := by simpa using k
            have k2 := nar_len (h := h) (st := st) X
            fail "wgx"
            refine ⟨_, rfl, ?_⟩
            fail "wgx"
            refine ⟨nar h st X, _, _, _, _, _, _, rfl, rfl, .inr ⟨Y.length, rfl, atK _⟩, by omega, fun p hp => hlt p (List.mem_filter.mp hp).1, ?_, ?_⟩
            · rw [← hg]
              exact gf_step (by omega)
            · simp only [List.length_cons] at hr
              omega
      · rintro env S2 ⟨X, Y, ld, x3, x4, x5, x6, rfl, rfl, hld, hX, hlt, hg, hr⟩
        exact absurd hr (Nat.not_lt_zero _)
    · rintro e S' ⟨Y, ld, x3, x4, x5, x6, rfl, rfl, hld⟩
      fail "wgx"
      rcases hld with rfl | ⟨c, rfl, hc⟩
      · exact ⟨Y, rfl, .inl ⟨rfl, gndN _, rfl⟩⟩
      · exact ⟨Y, rfl, .inr ⟨c, _, rfl, hc, gndN _, rfl⟩⟩
end
end Lw

set_option linter.all false
set_option maxRecDepth 100000
/-! Hs.D: books changed, guests turned. -/
namespace Hs
open PySem DL L2
def tD : Option Nat → D
  | none => .none
  | some n => nD n
def turD (t : List (Option Nat)) : D := .tuple (t.map tD)
theorem tD_pl : ∀ n, (tD n).plain = true
  | none => rfl
  | some _ => rfl
theorem gnd_tD : ∀ n, gnd (tD n) = true
  | none => rfl
  | some _ => rfl
def bst (b : List Stg) (s : Nat) : Stg := b.getD s (0, [])
def tur (t : List (Option Nat)) (s : Nat) : Option Nat := t.getD s none
/-- what a next is turned to -/
def tla (t : List (Option Nat)) : Option Nat → Option (Option Nat)
  | none => some none
  | some a => (tur t a).map some
def trn (b : List Stg) (t : List (Option Nat)) (p : Nat) (g : G) : Option G := match tur t g.1, tla t g.2 with
  | some s, some a => if (bst b s).1 = p ∧ a ∈ (bst b s).2 then some (s, a) else none
  | _, _ => none
def ogD : Option G → D
  | none => .none
  | some g => gD g
def laD : Option (Option Nat) → D
  | none => .none
  | some a => oD a
structure Gt (t : List (Option Nat)) (g : G) : Prop where
  s : g.1 < t.length
  a : ∀ x, g.2 = some x → x < t.length
def Bt (b : List Stg) (t : List (Option Nat)) : Prop := ∀ s x, tur t s = some x → x < b.length
theorem ogD_pl : ∀ g, (ogD g).plain = true
  | none => rfl
  | some _ => rfl
def due (b : List Stg) (t : List (Option Nat)) : Nat → Stand → Nat ⊕ Stand
  | _, [] => .inr []
  | p, r :: rs => if r.any (fun g => (trn b t p g).isNone) then .inl p else match due b t (p + 1) rs with
    | .inl q => .inl q
    | .inr l => .inr (gsort (r.filterMap (trn b t p)) :: l)
def cmb (acc : Stand) : Nat ⊕ Stand → Nat ⊕ Stand
  | .inl q => .inl q
  | .inr l => .inr (acc ++ l)
theorem due_step {b t p r rs acc} (h : r.any (fun g => (trn b t p g).isNone) = false) : cmb acc (due b t p (r :: rs)) = cmb (acc ++ [gsort (r.filterMap (trn b t p))]) (due b t (p + 1) rs) := by
  rw [due, if_neg (by rw [h]; exact Bool.false_ne_true)]
  cases due b t (p + 1) rs with
  | inl q => rfl
  | inr l => simp [cmb]
theorem due_stop {b t p r rs acc} (h : r.any (fun g => (trn b t p g).isNone) = true) : cmb acc (due b t p (r :: rs)) = .inl p := by
  rw [due, if_pos h]; rfl
theorem og_rows {b t p} {r : List G} (h : r.any (fun g => (trn b t p g).isNone) = false) : (r.map fun g => ogD (trn b t p g)) = (r.filterMap (trn b t p)).map gD := by
  induction r with
  | nil => rfl
  | cons g r ih =>
    simp only [List.any_cons, Bool.or_eq_false_iff] at h
    cases e : trn b t p g with
    | none => rw [e] at h; simp at h
    | some x => rw [List.map_cons, ih h.2, List.filterMap_cons_some e, e]; rfl
theorem og_any {b t p} {r : List G} : (r.map fun g => ogD (trn b t p g)).any isNone = r.any (fun g => (trn b t p g).isNone) := by
  rw [List.any_map]
  congr 1
  funext g
  simp only [Function.comp]
  cases trn b t p g <;> rfl
theorem due_inr {b t} : ∀ {rs : Stand} {p : Nat} {l : Stand}, due b t p rs = .inr l → l.length = rs.length ∧ ∀ i, i < rs.length → at_ l i = gsort ((at_ rs i).filterMap (trn b t (p + i))) ∧ ∀ g ∈ at_ rs i, (trn b t (p + i) g).isSome = true
  | [], p, l, h => by
    simp only [due, Sum.inr.injEq] at h
    subst h
    exact ⟨rfl, fun i hi => absurd hi (Nat.not_lt_zero _)⟩
  | r :: rs, p, l, h => by
    rw [due] at h
    split at h
    · cases h
    · rename_i hn
      cases e : due b t (p + 1) rs with
      | inl q => rw [e] at h; cases h
      | inr l' =>
        rw [e] at h
        simp only [Sum.inr.injEq] at h
        subst h
        obtain ⟨h1, h2⟩ := due_inr e
        refine ⟨by simp [h1], fun i hi => ?_⟩
        cases i with
        | zero =>
          refine ⟨rfl, fun g hg => ?_⟩
          have hn' : r.any (fun g => (trn b t p g).isNone) = false := by simpa using hn
          rw [List.any_eq_false] at hn'
          have := hn' g hg
          simpa [Option.isSome_iff_ne_none] using this
        | succ i =>
          have := h2 i (by simpa using hi)
          rw [show p + (i + 1) = p + 1 + i by omega]
          exact this
end Hs

set_option linter.all false
set_option maxRecDepth 100000
/-! Lw.D: guests turned. -/
namespace Lw
open PySem DL L2 Hs
section
variable {Q : D → Store → Prop} {X : Nat → D → Store → Prop} {S : Store} {b : List Stg} {t : List (Option Nat)} {g : G}
theorem R_tur {s : Nat} (hs : s < t.length) (q : Q (tD (tur t s)) S) : R (subV (turD t) (.int (s : Int)) S) Q X := R_map (f := tD) rfl (getD_get hs) q
theorem R_bst {s : Nat} (hs : s < b.length) (q : Q (stgD (bst b s)) S) : R (subV (bookD b) (.int (s : Int)) S) Q X := R_map (f := stgD) rfl (getD_get hs) q
theorem turn_eq (n : Nat) (V : Gt t g) (B : Bt b t) (p : Nat) : DL.run tab (n + 1) 4 [bookD b, turD t, nD p, gD g] S = .ok (ogD (trn b t p g)) S := by
  refine pure_same (fun S => r_turned_guest n _ _ _ _ S) ?_
  unfold b_turned_guest
  fail "wgx"
  refine ⟨_, rfl, ?_⟩
  fail "wgx"
  with_reducible refine R_cut (fun d S2 => S2 = S ∧ d = laD (tla t g.2)) ?_ ?_
  · with_reducible refine R_ite ?_
    fail "wgx"
    have hv := V.a
    cases e : g.2 with
    | none =>
      refine ⟨_, rfl, fun _ => ?_, fun k => absurd k (by simp [nI])⟩
      fail "wgx"
      exact ⟨rfl, rfl⟩
    | some a =>
      refine ⟨_, rfl, fun k => absurd k (by simp [nI]), fun _ => ?_⟩
      fail "wgx"
      refine R_tur (s := a) (hv a e) ⟨rfl, ?_⟩
      simp only [tla]
      cases tur t a <;> rfl
  · rintro d S2 ⟨rfl, rfl⟩
    refine ⟨_, rfl, ?_⟩
    fail "wgx"
    with_reducible refine W_ifs ?_
    with_reducible refine R_or ?_
    fail "wgx"
    refine R_tur V.s ?_
    fail "wgx"
    cases e1 : tur t g.1 with
    | none =>
      have ez : trn b t p g = none := by simp only [trn, e1]
      refine ⟨true, rfl, fun _ => ⟨true, rfl, fun _ => ?_, fun k => absurd k (by simp)⟩, fun k => absurd k (by simp)⟩
      fail "wgx"
      rw [ez]
      exact ⟨rfl, rfl⟩
    | some s =>
      refine ⟨false, rfl, fun k => absurd k (by simp), fun _ => ?_⟩
      fail "wgx"
      cases e2 : tla t g.2 with
      | none =>
        have ez : trn b t p g = none := by simp only [trn, e1, e2]
        refine ⟨true, rfl, fun _ => ?_, fun k => absurd k (by simp)⟩
        fail "wgx"
        rw [ez]
        exact ⟨rfl, rfl⟩
      | some a =>
        refine ⟨false, rfl, fun k => absurd k (by simp), fun _ => ?_⟩
        have hs := B _ _ e1
        fail "wgx"
        refine R_tur V.s ?_
        rw [e1]
        refine R_bst hs ?_
        refine ⟨_, rfl, ?_⟩
        fail "wgx"
        with_reducible refine R_ite ?_
        with_reducible refine R_and ?_
        fail "wgx"
        refine ⟨_, rfl, fun k => ?_, fun k => ?_⟩
        · fail "wgx"
          refine R_inO (q := a) (X' := (bst b s).2) rfl ?_
          refine ⟨_, rfl, fun k2 => ?_, fun k2 => ?_⟩
          · have ez : trn b t p g = some (s, a) := by
              simp only [trn, e1, e2]
              exact if_pos ⟨by simpa using k, by simpa using k2⟩
            fail "wgx"
            refine R_tur V.s ?_
            fail "wgx"
            rw [ez, e1]
            exact ⟨by simp, rfl, rfl⟩
          · have ez : trn b t p g = none := by
              simp only [trn, e1, e2]
              exact if_neg fun q => by simp [q.2] at k2
            fail "wgx"
            rw [ez]
            exact ⟨rfl, rfl⟩
        · refine ⟨false, rfl, fun k => absurd k (by simp), fun _ => ?_⟩
          have ez : trn b t p g = none := by
            simp only [trn, e1, e2]
            exact if_neg fun q => by simp [q.1] at k
          fail "wgx"
          rw [ez]
          exact ⟨rfl, rfl⟩
theorem lturn_eq (n : Nat) (V : Gt t g) (B : Bt b t) (p : Nat) : DL.run tab (n + 1) 21 [bookD b, turD t, nD p, gD g] S = .ok (ogD (trn b t p g)) S := by
  refine pure_same (fun S => r__law_turned n _ _ _ _ S) ?_
  unfold b__law_turned
  fail "wgx"
  refine R_tur V.s ?_
  fail "wgx"
  refine ⟨_, rfl, by simp, _, rfl, ?_⟩
  fail "wgx"
  with_reducible refine W_cut (fun e S2 => S2 = S ∧ e = [some (bookD b), some (turD t), some (nD p), some (gD g), some (tD (tur t g.1)), some (laD (tla t g.2))]) ?_ ?_
  · with_reducible refine W_ifs ?_
    fail "wgx"
    have hv := V.a
    cases e : g.2 with
    | none =>
      refine ⟨_, rfl, fun k => absurd k (by simp [nI]), fun _ => ?_⟩
      fail "wgx"
      exact ⟨rfl, rfl⟩
    | some a =>
      refine ⟨_, rfl, fun _ => ?_, fun k => absurd k (by simp [nI])⟩
      fail "wgx"
      try rw [e]
      refine R_tur (s := a) (hv a e) ⟨_, rfl, ?_⟩
      fail "wgx"
      refine ⟨rfl, ?_⟩
      simp only [tla]
      cases tur t a <;> rfl
  · rintro e S2 ⟨rfl, rfl⟩
    fail "wgx"
    with_reducible refine W_ifs ?_
    with_reducible refine R_or ?_
    fail "wgx"
    cases e1 : tur t g.1 with
    | none =>
      have ez : trn b t p g = none := by simp only [trn, e1]
      refine ⟨true, rfl, fun _ => ⟨true, rfl, fun _ => ?_, fun k => absurd k (by simp)⟩, fun k => absurd k (by simp)⟩
      fail "wgx"
      rw [ez]
      exact ⟨rfl, rfl⟩
    | some s =>
      refine ⟨false, rfl, fun k => absurd k (by simp), fun _ => ?_⟩
      with_reducible refine R_or ?_
      fail "wgx"
      cases e2 : tla t g.2 with
      | none =>
        have ez : trn b t p g = none := by simp only [trn, e1, e2]
        refine ⟨true, rfl, fun _ => ⟨true, rfl, fun _ => ?_, fun k => absurd k (by simp)⟩, fun k => absurd k (by simp)⟩
        fail "wgx"
        rw [ez]
        exact ⟨rfl, rfl⟩
      | some a =>
        refine ⟨false, rfl, fun k => absurd k (by simp), fun _ => ?_⟩
        have hs := B _ _ e1
        with_reducible refine R_or ?_
        fail "wgx"
        refine R_bst hs ?_
        fail "wgx"
        refine ⟨_, rfl, fun k => ⟨true, rfl, fun _ => ?_, fun k => absurd k (by simp)⟩, fun k => ?_⟩
        · have ez : trn b t p g = none := by
            simp only [trn, e1, e2]
            exact if_neg fun q => by simp [q.1] at k
          fail "wgx"
          rw [ez]
          exact ⟨rfl, rfl⟩
        · fail "wgx"
          refine R_bst hs ?_
          fail "wgx"
          refine R_notinO (q := a) (X' := (bst b s).2) rfl ?_
          refine ⟨_, rfl, fun k2 => ?_, fun k2 => ?_⟩
          · have ez : trn b t p g = none := by
              simp only [trn, e1, e2]
              exact if_neg fun q => by simp [q.2] at k2
            fail "wgx"
            rw [ez]
            exact ⟨rfl, rfl⟩
          · have ez : trn b t p g = some (s, a) := by
              simp only [trn, e1, e2]
              exact if_pos ⟨by simpa using k, by simpa using k2⟩
            fail "wgx"
            rw [ez]
            exact ⟨by simp, rfl, rfl⟩
end
end Lw

set_option linter.all false
set_option maxRecDepth 100000
/-! Lw.E: stands changed; whether the book may come. -/
namespace Lw
open PySem DL L2 Hs
structure Ct (b : List Stg) (t : List (Option Nat)) (st : Stand) : Prop where
  B : Bt b t
  V : ∀ r ∈ st, ∀ g ∈ r, Gt t g
  z : st.length ≤ 1000
  zr : ∀ r ∈ st, r.length ≤ 1000
theorem drop_some {st : Stand} {i : Nat} {r : List G} (h : st[i]? = some r) : st.drop i = r :: st.drop (i + 1) := by
  obtain ⟨hi, e⟩ := List.getElem?_eq_some_iff.mp h
  rw [List.drop_eq_getElem_cons hi, e]
theorem drop_end {st : Stand} {i : Nat} (h : ([] : List (List G × Nat)) = st.zipIdx.drop i) : st.drop i = [] := by
  have := congrArg List.length h
  rw [List.length_drop, List.length_zipIdx] at this
  exact List.drop_eq_nil_of_le (by simp at this; omega)
section
variable {b : List Stg} {t : List (Option Nat)} {st : Stand} {h : H}
theorem chg_eq (n : Nat) {S : Store} (hS : lsts S = true) (C : Ct b t st) (x : D) : R (DL.run tab (n + 2) 5 [x, standD st, bookD b, turD t] S) (fun d S' => S' = S ∧ ∃ l, due b t 0 st = .inr l ∧ d = standD l) (fun c d S' => S' = S ∧ c = 0 ∧ ∃ p, due b t 0 st = .inl p ∧ d = nD p) := by
  refine pure_ofR (Qd := fun d => ∃ l, due b t 0 st = .inr l ∧ d = standD l) (Xd := fun c d => c = 0 ∧ ∃ p, due b t 0 st = .inl p ∧ d = nD p) (fun S => r_changed_stand (n + 1) _ _ _ _ S) hS ?_
  unfold b_changed_stand
  fail "wgx"
  refine R_newL rfl rfl ?_
  fail "wgx"
  refine ⟨rfl, by simp, _, rfl, ?_⟩
  fail "wgx"
  with_reducible refine W_frl (α := List G × Nat) (enD gsD) (fun l env S' => ∃ (acc : Stand) (i : Nat) (x5 x6 x7 x8 : Option D), l = st.zipIdx.drop i ∧ acc.length ≤ i ∧ i ≤ st.length ∧ due b t 0 st = cmb acc (due b t i (st.drop i)) ∧ S' = S ++ [.lst (acc.map gsD)] ∧ env = [some x, some (standD st), some (bookD b), some (turD t), some (rf (S.length + 0)), x5, x6, x7, x8]) ?_
  fail "wgx"
  refine ⟨st.zipIdx, none, enum_n rfl rfl, ⟨[], 0, none, none, none, none, rfl, Nat.le_refl _, Nat.zero_le _, ?_, rfl, rfl⟩, fun _ _ _ _ => rfl, ?_, ?_⟩
  · rw [List.drop_zero]
    cases due b t 0 st with
    | inl q => rfl
    | inr l => rfl
  · rintro y r env S2 ⟨acc, i, x5, x6, x7, x8, hl, ha, hi, hd, rfl, rfl⟩
    obtain ⟨e1, e2, e3⟩ := zip_some hl.symm
    obtain ⟨row, j⟩ := y
    simp only at e1 e2
    subst e1
    have hj : j < st.length := (List.getElem?_eq_some_iff.mp e2).1
    have hm : row ∈ st := List.mem_of_getElem? e2
    rw [drop_some e2] at hd
    refine ⟨_, rfl, ?_⟩
    have hz := C.z
    fail "wgx"
    with_reducible refine R_compM gD (fun g => ogD (trn b t j g)) ?_
    fail "wgx"
    refine ⟨row, none, val_n rfl rfl, by have := C.zr row hm; omega, rfl, fun g hg => ⟨_, rfl, ?_⟩, ?_⟩
    · fail "wgx"
      exact R_eq (turn_eq n (C.V row hm g hg) C.B j) ⟨rfl, rfl⟩
    · refine ⟨_, rfl, ?_⟩
      fail "wgx"
      with_reducible refine W_ifs ?_
      fail "wgx"
      refine R_noneIn rfl (pl_map fun g => ogD_pl _) ?_
      rw [og_any]
      refine ⟨_, rfl, fun k => ?_, fun k => ?_⟩
      · fail "wgx"
        rw [due_stop k] at hd
        exact ⟨_, rfl, rfl, rfl, j, hd, rfl⟩
      · rw [og_rows k]
        fail "wgx"
        refine ⟨by rw [lst_loc rfl (c := 0) rfl]; rfl, ?_⟩
        fail "wgx"
        refine R_sortG rfl (by have := C.zr row hm; have := List.length_filterMap_le (trn b t j) row; omega) ?_
        fail "wgx"
        refine R_tuple rfl ?_
        fail "wgx"
        refine R_append rfl (c := 0) rfl (by rw [List.length_map]; omega) ?_
        fail "wgx"
        rw [due_step k] at hd
        refine ⟨acc ++ [gsort (row.filterMap (trn b t j))], j + 1, _, _, _, _, e3.symm, by simp; omega, hj, hd, ?_, rfl⟩
        simp [setL, gsD]
  · rintro env S2 ⟨acc, i, x5, x6, x7, x8, hl, ha, hi, hd, rfl, rfl⟩
    fail "wgx"
    refine R_tupleL rfl (c := 0) rfl ?_
    rw [drop_end hl] at hd
    refine ⟨_, rfl, .inl ⟨rfl, gnd_stD acc, acc, ?_, rfl⟩⟩
    rw [hd]
    simp [due, cmb]
def dueD : Nat ⊕ Stand → D
  | .inl p => .tuple [.str "refused", nD p, .bool true]
  | .inr l => .tuple [.str "told", standD l]
theorem due_eq (n : Nat) {S : Store} (hS : lsts S = true) (C : Ct b t st) : DL.run tab (n + 2) 22 [standD st, bookD b, turD t] S = .ok (dueD (due b t 0 st)) S := by
  refine pure_of (fun S => r__law_due_stand (n + 1) _ _ _ S) hS ?_
  unfold b__law_due_stand
  fail "wgx"
  refine R_newL rfl rfl ?_
  fail "wgx"
  refine ⟨rfl, by simp, _, rfl, ?_⟩
  fail "wgx"
  with_reducible refine W_frl (α := List G × Nat) (enD gsD) (fun l env S' => ∃ (acc : Stand) (i : Nat) (x5 x6 x7 x8 : Option D), l = st.zipIdx.drop i ∧ acc.length ≤ i ∧ i ≤ st.length ∧ due b t 0 st = cmb acc (due b t i (st.drop i)) ∧ S' = S ++ [.lst (acc.map gsD)] ∧ env = [some (standD st), some (bookD b), some (turD t), some (rf (S.length + 0)), x5, x6, x7, x8]) ?_
  fail "wgx"
  refine ⟨st.zipIdx, none, enum_n rfl rfl, ⟨[], 0, none, none, none, none, rfl, Nat.le_refl _, Nat.zero_le _, ?_, rfl, rfl⟩, fun _ _ _ _ => rfl, ?_, ?_⟩
  · rw [List.drop_zero]
    cases due b t 0 st with
    | inl q => rfl
    | inr l => rfl
  · rintro y r env S2 ⟨acc, i, x5, x6, x7, x8, hl, ha, hi, hd, rfl, rfl⟩
    obtain ⟨e1, e2, e3⟩ := zip_some hl.symm
    obtain ⟨row, j⟩ := y
    simp only at e1 e2
    subst e1
    have hj : j < st.length := (List.getElem?_eq_some_iff.mp e2).1
    have hm : row ∈ st := List.mem_of_getElem? e2
    rw [drop_some e2] at hd
    refine ⟨_, rfl, ?_⟩
    have hz := C.z
    fail "wgx"
    with_reducible refine R_compM gD (fun g => ogD (trn b t j g)) ?_
    fail "wgx"
    refine ⟨row, none, val_n rfl rfl, by have := C.zr row hm; omega, rfl, fun g hg => ⟨_, rfl, ?_⟩, ?_⟩
    · fail "wgx"
      exact R_eq (lturn_eq n (C.V row hm g hg) C.B j) ⟨rfl, rfl⟩
    · refine ⟨_, rfl, ?_⟩
      fail "wgx"
      with_reducible refine W_ifs ?_
      fail "wgx"
      refine R_noneIn rfl (pl_map fun g => ogD_pl _) ?_
      rw [og_any]
      refine ⟨_, rfl, fun k => ?_, fun k => ?_⟩
      · fail "wgx"
        rw [due_stop k] at hd
        rw [hd]
        exact ⟨by simp, _, rfl, .inl ⟨rfl, rfl, rfl⟩⟩
      · rw [og_rows k]
        fail "wgx"
        refine ⟨by rw [lst_loc rfl (c := 0) rfl]; rfl, ?_⟩
        fail "wgx"
        refine R_sortG rfl (by have := C.zr row hm; have := List.length_filterMap_le (trn b t j) row; omega) ?_
        fail "wgx"
        refine R_tuple rfl ?_
        fail "wgx"
        refine R_append rfl (c := 0) rfl (by rw [List.length_map]; omega) ?_
        fail "wgx"
        rw [due_step k] at hd
        refine ⟨acc ++ [gsort (row.filterMap (trn b t j))], j + 1, _, _, _, _, e3.symm, by simp; omega, hj, hd, ?_, rfl⟩
        simp [setL, gsD]
  · rintro env S2 ⟨acc, i, x5, x6, x7, x8, hl, ha, hi, hd, rfl, rfl⟩
    fail "wgx"
    refine R_tupleL rfl (c := 0) rfl ?_
    fail "wgx"
    rw [drop_end hl] at hd
    have hd' : due b t 0 st = .inr acc := by rw [hd]; simp [due, cmb]
    rw [hd']
    refine ⟨by simp, _, rfl, .inl ⟨rfl, ?_, rfl⟩⟩
    show gndL [_, _] = true
    have := gnd_stD acc
    unfold standD at this
    simp only [gndL, this]
    rfl
/-- the house with a new book -/
def bookH (h : H) (b : List Stg) : H := ⟨h.seats, b⟩
/-- what stands behind may be asked -/
structure Mt (h : H) (b : List Stg) (t : List (Option Nat)) (st : Stand) : Prop where
  C : Ct b t st
  len : st.length = h.seats.length
  le : ∀ p, p < st.length → (at_ st p).length ≤ seat h p
  le2 : ∀ p, p < st.length → seat h p ≤ 1000
def mayB (h : H) (b : List Stg) (t : List (Option Nat)) (st : Stand) : Bool := match due b t 0 st with
  | .inl _ => false
  | .inr l => (Stk (bookH h b) l).isEmpty
theorem trn_some {p : Nat} {g x : G} (e : trn b t p g = some x) : ∃ s a, x = (s, a) ∧ tur t g.1 = some s ∧ tla t g.2 = some a ∧ (bst b s).1 = p ∧ a ∈ (bst b s).2 := by
  unfold trn at e
  split at e
  · rename_i s a e1 e2
    split at e
    · rename_i c
      simp only [Option.some.injEq] at e
      exact ⟨s, a, e.symm, e1, e2, c.1, c.2⟩
    · cases e
  · cases e
theorem Mt.sw (M : Mt h b t st) {l : Stand} (e : due b t 0 st = .inr l) : Sw (bookH h b) l := by
  obtain ⟨h1, h2⟩ := due_inr e
  refine ⟨h1.trans M.len, by rw [h1]; exact M.C.z, fun p hp g hg x hx => ?_, fun p hp => ?_, fun p hp => ?_⟩
  · rw [h1] at hp
    rw [(h2 p hp).1, gsort_mem, List.mem_filterMap] at hg
    obtain ⟨g0, _, e0⟩ := hg
    obtain ⟨s, a, rfl, _, e2, _, _⟩ := trn_some e0
    simp only at hx
    subst hx
    cases q : g0.2 with
    | none => rw [q] at e2; simp [tla] at e2
    | some y =>
      rw [q] at e2
      simp only [tla, Option.map_eq_some_iff, Option.some.injEq, exists_eq_right] at e2
      exact M.C.B _ _ e2
  · rw [h1] at hp
    rw [(h2 p hp).1, gsort_len]
    exact Nat.le_trans (List.length_filterMap_le _ _) (M.le p hp)
  · rw [h1] at hp
    exact M.le2 p hp
theorem may_eq (n : Nat) {S : Store} (hS : lsts S = true) (M : Mt h b t st) : DL.run tab (n + 4) 6 [hD h, standD st, bookD b, turD t] S = .ok (.bool (mayB h b t st)) S := by
  refine pure_same (fun S => r_may_change (n + 3) _ _ _ _ S) ?_
  unfold b_may_change
  fail "wgx"
  refine (chg_eq (n + 1) hS M.C (hD h)).imp ?_ ?_
  · rintro d S' ⟨rfl, l, e, rfl⟩
    refine ⟨_, rfl, ?_⟩
    fail "wgx"
    have e1 : DL.run tab (n + 3) 3 [.tuple [seatsD h.seats, bookD b], standD l] S' = .ok (.tuple ((Stk (bookH h b) l).map nD)) S' := stuck_eq (h := bookH h b) n (M.sw e)
    refine ⟨by simp, ?_⟩
    fail "wgx"
    rw [e1]
    refine R_ok ?_
    fail "wgx"
    refine R_lenMap (f := nD) rfl ?_
    fail "wgx"
    refine ⟨?_, rfl⟩
    unfold mayB
    rw [e]
    simp only [PyData.bool.injEq]
    cases Stk (bookH h b) l <;> simp
  · rintro c d S' ⟨rfl, rfl, p, e, rfl⟩
    refine .inl ⟨by simp, ?_, rfl⟩
    unfold mayB
    rw [e]
theorem lmay_eq (n : Nat) {S : Store} (hS : lsts S = true) (M : Mt h b t st) : DL.run tab (n + 3) 23 [hD h, standD st, bookD b, turD t] S = .ok (.bool (mayB h b t st)) S := by
  refine pure_same (fun S => r__law_may (n + 2) _ _ _ _ S) ?_
  unfold b__law_may
  fail "wgx"
  refine R_eq (due_eq n hS M.C) ?_
  refine ⟨_, rfl, ?_⟩
  fail "wgx"
  with_reducible refine R_and ?_
  fail "wgx"
  unfold mayB
  cases e : due b t 0 st with
  | inl p =>
    refine R_sub0 rfl ?_
    fail "wgx"
    refine R_eq (a := .bool false) (S := S) rfl ⟨false, rfl, fun k => absurd k (by simp), fun _ => ⟨rfl, rfl⟩⟩
  | inr l =>
    refine R_sub0 rfl ?_
    fail "wgx"
    refine R_eq (a := .bool true) (S := S) rfl ⟨true, rfl, fun _ => ?_, fun k => absurd k (by simp)⟩
    fail "wgx"
    have e1 : DL.run tab (n + 2) 13 [.tuple [seatsD h.seats, bookD b], standD l] S = .ok (.list ((Stk (bookH h b) l).map nD)) S := lstuck_eq (h := bookH h b) n hS (M.sw e)
    refine ⟨by simp, ?_⟩
    fail "wgx"
    rw [e1]
    refine R_ok ?_
    fail "wgx"
    refine R_eqNilF nD_pl ?_
    exact ⟨rfl, rfl⟩
end
end Lw

set_option linter.all false
set_option maxRecDepth 100000
/-! Lw.F: likeness. -/
namespace Lw
open PySem DL L2 Hs
mutual
def smD : D → Bool
  | .none => true
  | .bool _ => true
  | .int _ => true
  | .str _ => true
  | .tuple xs => decide (xs.length ≤ 100000) && smL xs
  | _ => false
def smL : List D → Bool
  | [] => true
  | x :: r => smD x && smL r
end
theorem smL_iff : ∀ {xs : List D}, smL xs = true ↔ ∀ x ∈ xs, smD x = true
  | [] => by simp [smL]
  | x :: r => by simp [smL, smL_iff (xs := r)]
theorem depth_mem : ∀ {xs : List D} {x : D}, x ∈ xs → x.depth ≤ PyData.depthAll xs
  | [], x, h => by cases h
  | y :: r, x, h => by
    rcases List.mem_cons.mp h with rfl | h
    · simp only [PyData.depthAll]; omega
    · have := depth_mem h
      simp only [PyData.depthAll]; omega
section
variable {Q : D → Store → Prop} {X : Nat → D → Store → Prop} {S : Store}
theorem R_isT {t : Nat} {m : Bool} {d : D} {b : Bool} (h : isTy S t d = some b) (q : Q (.bool b) S) : R (bltV (.isT t) m [d] S) Q X := by
  refine R_eq (a := .bool b) (S := S) ?_ q
  show isTV t [d] S = _
  simp only [isTV, h]
end
end Lw
local macro_rules | `(tactic| fail "wprim") => `(tactic| ((with_reducible refine Lw.R_isT (b := ?_) ?_ ?_); rotate_left; rfl))
namespace Lw
open PySem DL L2 Hs
theorem zip_self (xs : List D) (S : Store) : itemsV .zip [.tuple xs, .tuple xs] S = .ok (xs.map fun x => .tuple [x, x], none) S := by
  show Res.ok (List.zipWith (fun x y => PyData.tuple [x, y]) xs xs, none) S = _
  congr 2
  induction xs with
  | nil => rfl
  | cons x r ih => simp [ih]
theorem same_bool (n : Nat) (S : Store) (a c : Bool) : DL.run tab (n + 1) 11 [.bool a, .bool c] S = .ok (.bool (a == c)) S := by
  refine pure_same (fun S => r__law_same n _ _ S) ?_
  unfold b__law_same
  fail "wgx"
  with_reducible refine W_ifs ?_
  fail "wgx"
  refine ⟨false, rfl, fun k => absurd k (by simp), fun _ => ?_⟩
  fail "wgx"
  with_reducible refine W_ifs ?_
  with_reducible refine R_or ?_
  fail "wgx"
  refine ⟨false, rfl, fun k => absurd k (by simp), fun _ => ?_⟩
  with_reducible refine R_or ?_
  fail "wgx"
  refine ⟨true, rfl, fun _ => ⟨true, rfl, fun _ => ?_, fun k => absurd k (by simp)⟩, fun k => absurd k (by simp)⟩
  fail "wgx"
  with_reducible refine R_ite ?_
  fail "wgx"
  refine ⟨false, rfl, fun k => absurd k (by simp), fun _ => ?_⟩
  with_reducible refine R_and ?_
  fail "wgx"
  refine ⟨true, rfl, fun _ => ?_, fun k => absurd k (by simp)⟩
  with_reducible refine R_and ?_
  fail "wgx"
  refine ⟨true, rfl, fun _ => ?_, fun k => absurd k (by simp)⟩
  fail "wgx"
  exact R_eq (a := .bool (a == c)) (S := S) rfl ⟨rfl, rfl⟩
theorem same_refl (n : Nat) : ∀ (m : Nat) (d : D), smD d = true → d.depth < m → ∀ S, DL.run tab (n + m) 11 [d, d] S = .ok (.bool true) S
  | 0, d, _, h, S => absurd h (Nat.not_lt_zero _)
  | m + 1, d, hd, hm, S => by
    cases d with
    | bool b => rw [show n + (m + 1) = (n + m) + 1 from rfl, same_bool]; simp
    | none =>
      refine pure_same (fun S => r__law_same (n + m) _ _ S) ?_
      unfold b__law_same
      fail "wgx"
      with_reducible refine W_ifs ?_
      fail "wgx"
      refine ⟨false, rfl, fun k => absurd k (by simp), fun _ => ?_⟩
      fail "wgx"
      with_reducible refine W_ifs ?_
      with_reducible refine R_or ?_
      fail "wgx"
      refine ⟨true, rfl, fun _ => ⟨true, rfl, fun _ => ?_, fun k => absurd k (by simp)⟩, fun k => absurd k (by simp)⟩
      fail "wgx"
      with_reducible refine R_ite ?_
      fail "wgx"
      refine ⟨true, rfl, fun _ => ?_, fun k => absurd k (by simp)⟩
      fail "wgx"
      exact ⟨rfl, rfl⟩
    | int i =>
      refine pure_same (fun S => r__law_same (n + m) _ _ S) ?_
      unfold b__law_same
      fail "wgx"
      with_reducible refine W_ifs ?_
      fail "wgx"
      refine ⟨false, rfl, fun k => absurd k (by simp), fun _ => ?_⟩
      fail "wgx"
      with_reducible refine W_ifs ?_
      with_reducible refine R_or ?_
      fail "wgx"
      refine ⟨false, rfl, fun k => absurd k (by simp), fun _ => ?_⟩
      with_reducible refine R_or ?_
      fail "wgx"
      refine ⟨false, rfl, fun k => absurd k (by simp), fun _ => ?_⟩
      fail "wgx"
      refine ⟨false, rfl, fun k => absurd k (by simp), fun _ => ?_⟩
      fail "wgx"
      with_reducible refine R_and ?_
      with_reducible refine R_ite ?_
      fail "wgx"
      refine ⟨true, rfl, fun _ => ?_, fun k => absurd k (by simp)⟩
      fail "wgx"
      refine ⟨true, rfl, fun _ => ?_, fun k => absurd k (by simp)⟩
      fail "wgx"
      simp
    | str x =>
      refine pure_same (fun S => r__law_same (n + m) _ _ S) ?_
      unfold b__law_same
      fail "wgx"
      with_reducible refine W_ifs ?_
      fail "wgx"
      refine ⟨false, rfl, fun k => absurd k (by simp), fun _ => ?_⟩
      fail "wgx"
      with_reducible refine W_ifs ?_
      with_reducible refine R_or ?_
      fail "wgx"
      refine ⟨false, rfl, fun k => absurd k (by simp), fun _ => ?_⟩
      with_reducible refine R_or ?_
      fail "wgx"
      refine ⟨false, rfl, fun k => absurd k (by simp), fun _ => ?_⟩
      fail "wgx"
      refine ⟨false, rfl, fun k => absurd k (by simp), fun _ => ?_⟩
      fail "wgx"
      with_reducible refine R_and ?_
      with_reducible refine R_ite ?_
      fail "wgx"
      refine ⟨false, rfl, fun k => absurd k (by simp), fun _ => ?_⟩
      fail "wgx"
      refine ⟨true, rfl, fun _ => ?_, fun k => absurd k (by simp)⟩
      fail "wgx"
      refine R_eq (a := .bool true) (S := S) ?_ ⟨rfl, rfl⟩
      have e : PyData.eqv (.str x) (.str x) = true := by simp [PyData.eqv]
      have e2 : eqOk (.str x) (.str x) = true := by simp [eqOk, PyData.plain, PyData.depth]
      show (if eqOk (.str x) (.str x) then Res.ok (PyData.bool (PyData.eqv (.str x) (.str x))) S else .bad) = _
      rw [e, e2]; rfl
    | tuple xs =>
      simp only [smD, Bool.and_eq_true, decide_eq_true_eq] at hd
      have hz := hd.1
      refine pure_same (fun S => r__law_same (n + m) _ _ S) ?_
      unfold b__law_same
      fail "wgx"
      with_reducible refine W_ifs ?_
      fail "wgx"
      refine ⟨true, rfl, fun _ => ?_, fun k => absurd k (by simp)⟩
      fail "wgx"
      with_reducible refine W_ifs ?_
      with_reducible refine R_or ?_
      fail "wgx"
      refine ⟨true, rfl, false, rfl, fun k => absurd k (by simp), fun _ => ?_⟩
      fail "wgx"
      refine R_len rfl ?_
      fail "wgx"
      refine R_len rfl ?_
      fail "wgx"
      refine ⟨_, rfl, fun k => absurd k (by simp), fun _ => ?_⟩
      fail "wgx"
      with_reducible refine R_compP (fun x : D => .tuple [x, x]) (fun _ => false) (fun _ => .int 1) ?_
      fail "wgx"
      refine ⟨xs, none, zip_self xs S, by omega, rfl, fun y hy => ⟨_, rfl, ?_, fun k => absurd k (by simp)⟩, ?_⟩
      · fail "wgx"
        have hdep := depth_mem hy
        have hm' : PyData.depthAll xs + 1 < m + 1 := hm
        have e1 := same_refl n m y (smL_iff.mp hd.2 y hy) (by omega) S
        rw [e1]
        exact ⟨_, rfl, _, rfl, rfl, rfl⟩
      · rw [show (xs.filter fun _ => false) = [] by simp]
        fail "wgx"
        refine R_eqNilF (f := fun _ : D => PyData.int 1) (l := []) (fun _ => rfl) ?_
        exact ⟨rfl, rfl⟩
    | _ => simp [smD] at hd
end Lw

set_option linter.all false
set_option maxRecDepth 100000
/-! Lw.G: drawn houses. -/
namespace Lw
open PySem DL L2 Hs
structure Wf (h : H) : Prop where
  p0 : 0 < h.seats.length
  c0 : 0 < h.stages.length
  pl : h.seats.length ≤ 30
  st : h.stages.length ≤ 30
  se : ∀ p, p < h.seats.length → 1 ≤ seat h p ∧ seat h p ≤ 2
  pc : ∀ s, s < h.stages.length → plc h s < h.seats.length
  nz : ∀ s, s < h.stages.length → (nxs h s).length ≤ 31
  nx : ∀ s, s < h.stages.length → ∀ t, some t ∈ nxs h s → t < h.stages.length
theorem right_eq (n : Nat) {h : H} {b : List Stg} {t : List (Option Nat)} {st : Stand} {S : Store} (hS : lsts S = true) (M : Mt h b t st) : DL.run tab (n + 5) 26 [hD h, standD st, bookD b, turD t] S = .ok (.bool true) S := by
  refine pure_same (fun S => r__law_may_right (n + 4) _ _ _ _ S) ?_
  unfold b__law_may_right
  fail "wgx"
  rw [may_eq n hS M]
  refine R_ok ?_
  fail "wgx"
  rw [lmay_eq (n + 1) hS M]
  refine R_ok ?_
  fail "wgx"
  rw [same_bool (n + 3)]
  refine R_ok ⟨?_, rfl⟩
  simp
/-! ### kinds -/
def kk (p : Nat) (x : Stg × Nat) : List G := if x.1.1 = p then x.1.2.map (fun a => (x.2, a)) else []
def kinds (h : H) (p : Nat) : List G := h.stages.zipIdx.flatMap (kk p)
theorem kinds_mem {h : H} {p : Nat} {g : G} (hg : g ∈ kinds h p) : g.1 < h.stages.length ∧ plc h g.1 = p ∧ g.2 ∈ nxs h g.1 := by
  obtain ⟨⟨s, i⟩, hx, hg⟩ := List.mem_flatMap.mp hg
  have h1 : h.stages[i]? = some s := by
    have := List.mem_zipIdx_iff_getElem?.mp hx
    simpa using this
  have hi : i < h.stages.length := (List.getElem?_eq_some_iff.mp h1).1
  have hs : stg h i = s := by
    have := get_stg hi
    rw [h1] at this
    exact (Option.some.inj this).symm
  simp only [kk] at hg
  split at hg
  · rename_i c
    obtain ⟨a, ha, rfl⟩ := List.mem_map.mp hg
    refine ⟨hi, ?_, ?_⟩
    · show (stg h i).1 = p
      rw [hs]; exact c
    · show a ∈ (stg h i).2
      rw [hs]; exact ha
  · cases hg
theorem flat_len {α β : Type} {f : α → List β} {m : Nat} : ∀ {l : List α}, (∀ x ∈ l, (f x).length ≤ m) → (l.flatMap f).length ≤ l.length * m
  | [], _ => by simp
  | x :: r, h => by
    have h1 := flat_len (l := r) fun y hy => h y (List.mem_cons_of_mem _ hy)
    have h2 := h x List.mem_cons_self
    rw [List.flatMap_cons, List.length_append, List.length_cons, Nat.succ_mul]
    omega
theorem kinds_len {h : H} (W : Wf h) (p : Nat) : (kinds h p).length ≤ 1000 := by
  have h1 : (kinds h p).length ≤ h.stages.zipIdx.length * 31 := flat_len fun x hx => by
    obtain ⟨s, i⟩ := x
    have h1 : h.stages[i]? = some s := by
      have := List.mem_zipIdx_iff_getElem?.mp hx
      simpa using this
    have hi : i < h.stages.length := (List.getElem?_eq_some_iff.mp h1).1
    have hs : stg h i = s := by
      have := get_stg hi
      rw [h1] at this
      exact (Option.some.inj this).symm
    have := W.nz i hi
    simp only [kk]
    split
    · rw [List.length_map]
      show s.2.length ≤ 31
      rw [← hs]; exact this
    · exact Nat.zero_le _
  rw [List.length_zipIdx] at h1
  have := W.st
  have : h.stages.length * 31 ≤ 30 * 31 := Nat.mul_le_mul_right _ this
  omega
theorem kinds_eq (n : Nat) {h : H} {S : Store} (V : Wf h) (p : Nat) : DL.run tab (n + 1) 14 [hD h, nD p] S = .ok (.list ((kinds h p).map gD)) S := by
  refine pure_same (fun S => r__law_kinds n _ _ S) ?_
  unfold b__law_kinds
  have hkl := kinds_len V p
  fail "wgx"
  refine ⟨_, rfl, ?_⟩
  fail "wgx"
  with_reducible refine W_frl (α := Stg × Nat) (enD stgD) (fun l env S' => ∃ (acc : List G) (x3 x4 x5 : Option D), acc ++ l.flatMap (kk p) = kinds h p ∧ (∀ x ∈ l, x.1.2.length ≤ 31) ∧ S' = S ∧ env = [some (hD h), some (nD p), some (.list (acc.map gD)), x3, x4, x5]) ?_
  fail "wgx"
  refine ⟨h.stages.zipIdx, none, enum_n rfl rfl, ⟨[], none, none, none, rfl, fun x hx => ?_, rfl, rfl⟩, fun _ _ _ _ => rfl, ?_, ?_⟩
  · obtain ⟨s, i⟩ := x
    have h1 : h.stages[i]? = some s := by
      have := List.mem_zipIdx_iff_getElem?.mp hx
      simpa using this
    have hi : i < h.stages.length := (List.getElem?_eq_some_iff.mp h1).1
    have hs : stg h i = s := by
      have := get_stg hi
      rw [h1] at this
      exact (Option.some.inj this).symm
    have := V.nz i hi
    show s.2.length ≤ 31
    rw [← hs]; exact this
  · rintro ⟨s, i⟩ r env S2 ⟨acc, x3, x4, x5, hk, hz, rfl, rfl⟩
    refine ⟨_, rfl, ?_⟩
    have hz1 := hz _ List.mem_cons_self
    have hz2 : ∀ x ∈ r, x.1.2.length ≤ 31 := fun x hx => hz x (List.mem_cons_of_mem _ hx)
    rw [List.flatMap_cons] at hk
    have hal := congrArg List.length hk
    simp only [List.length_append] at hal
    fail "wgx"
    with_reducible refine W_ifs ?_
    fail "wgx"
    refine ⟨_, rfl, fun k => ?_, fun k => ?_⟩
    · have c : s.1 = p := by simpa using k
      fail "wgx"
      with_reducible refine R_compM oD (fun a => gD (i, a)) ?_
      fail "wgx"
      refine ⟨s.2, none, val_n rfl rfl, by simp only at hz1; omega, rfl, fun a ha => ⟨_, rfl, ?_⟩, ?_⟩
      · fail "wgx"
        exact ⟨by simp, rfl, rfl⟩
      · have ek : kk p (s, i) = s.2.map fun a => (i, a) := if_pos c
        rw [ek] at hk hal
        have em : s.2.map (fun a => gD (i, a)) = (s.2.map fun a => (i, a)).map gD := by rw [List.map_map]; rfl
        rw [em]
        refine R_addL (x := acc.map gD) (y := (s.2.map fun a => (i, a)).map gD) rfl rfl (by simp only [List.length_map]; simp only [List.length_map] at hal; omega) ?_
        refine ⟨_, rfl, ?_⟩
        fail "wgx"
        rw [← List.map_append]
        exact ⟨acc ++ s.2.map fun a => (i, a), _, _, _, by rw [← hk, List.append_assoc], hz2, rfl, rfl⟩
    · have c : ¬ s.1 = p := by simpa using k
      have ek : kk p (s, i) = [] := if_neg c
      rw [ek, List.nil_append] at hk
      fail "wgx"
      exact ⟨acc, _, _, _, hk, hz2, rfl, rfl⟩
  · rintro env S2 ⟨acc, x3, x4, x5, hk, hz, rfl, rfl⟩
    fail "wgx"
    rw [← hk]
    simp
end Lw

set_option linter.all false
set_option maxRecDepth 100000
/-! Lw.H: drawn nexts, drawn houses. -/
namespace Lw
open PySem DL L2 Hs
theorem Drw.imp' {k : Nat} {f : Store → Res D} {P P' : D → Prop} (h : Drw k f P) (i : ∀ d, P d → P' d) : Drw k f P' := fun S H hS => by
  obtain ⟨d, S', e, H', p⟩ := h S H hS
  exact ⟨d, S', e, H', i d p⟩
theorem R_spot {Q : D → Store → Prop} {X : Nat → D → Store → Prop} {S : Store} {l : List Nat} {i : Nat} {d : D} (hd : seqOf S d = some (l.map nD)) (hi : i < l.length) (q : Q (nD (l.getD i 0)) S) : R (subV d (.int (i : Int)) S) Q X := R_map (f := nD) hd (getD_get hi) q
def nxP (C last : Nat) : D → Prop := fun d => ∃ l : List (Option Nat), d = .tuple (l.map oD) ∧ l ≠ [] ∧ l.length ≤ C + 1 ∧ ∀ t, some t ∈ l → t < C ∧ last ≤ t
theorem nexts_d (n k : Nat) {spots : List Nat} {s last : Nat} (hs : s < spots.length) (hC : spots.length ≤ 30) (hl : last ≤ 30) : Drw k (DL.run tab (n + 3) 15 [rf k, .list (spots.map nD), nD s, nD last]) (nxP spots.length last) := by
  refine Drw.of (fun S => r__law_nexts (n + 2) _ _ _ _ S) fun S H hS => ?_
  rw [List.append_nil]
  unfold b__law_nexts
  fail "wgx"
  let some' : List Nat := ((List.range (spots.length - last)).map fun k => last + k).filter fun q => decide (spots.getD q 0 ≠ spots.getD s 0)
  have hsl : some'.length ≤ spots.length := by
    refine Nat.le_trans (List.length_filter_le _ _) ?_
    simp
  have hsm : ∀ x ∈ some', x < spots.length ∧ last ≤ x := fun x hx => by
    have := (List.mem_filter.mp hx).1
    simp only [List.mem_map, List.mem_range] at this
    obtain ⟨a, ha, rfl⟩ := this
    omega
  with_reducible refine R_compP nD (fun q => decide (spots.getD q 0 ≠ spots.getD s 0)) nD ?_
  fail "wgx"
  refine R_lenMap (f := nD) rfl ?_
  fail "wgx"
  refine ⟨(List.range (spots.length - last)).map fun k => last + k, none, rng2_n (by omega) (by omega) S, by simp; omega, rfl, fun q hq => ⟨_, rfl, ?_, fun _ => ?_⟩, ?_⟩
  · simp only [List.mem_map, List.mem_range] at hq
    have hq2 : q < spots.length := by obtain ⟨a, ha, rfl⟩ := hq; omega
    fail "wgx"
    refine R_spot rfl hq2 ?_
    fail "wgx"
    refine R_spot rfl hs ?_
    fail "wgx"
    exact ⟨_, rfl, rfl, rfl⟩
  · fail "wgx"
    exact ⟨rfl, rfl⟩
  · show ∃ env', _
    change ∃ env', bindT (.nm 4) (.list (some'.map nD)) _ = some env' ∧ _
    clear_value some'
    refine ⟨_, rfl, ?_⟩
    fail "wgx"
    with_reducible refine R_compI nD nD (fun l acc S' => Bx S k S' ∧ (∀ x ∈ acc, x ∈ some') ∧ (∀ x ∈ l, x ∈ some') ∧ acc.length + l.length ≤ some'.length) ?_
    fail "wgx"
    refine ⟨some', none, val_n rfl rfl, ⟨H, fun x hx => absurd hx (by simp), fun x hx => hx, by simp⟩, fun _ _ _ _ => rfl, ?_, ?_⟩
    · rintro y r acc S2 ⟨HB, h1, h2, h3⟩
      refine ⟨_, rfl, ?_⟩
      have h2' : ∀ x ∈ r, x ∈ some' := fun x hx => h2 x (List.mem_cons_of_mem _ hx)
      simp only [List.length_cons] at h3
      fail "wgx"
      refine R_drw0 (take_d (n + 1) k (m := 3) (by omega) (by omega)) HB hS ?_
      rintro d S3 ⟨i, rfl, hi⟩ H3
      fail "wgx"
      refine ⟨_, rfl, fun _ => ?_, fun _ => ⟨H3, h1, h2', by omega⟩⟩
      fail "wgx"
      refine ⟨y, rfl, H3, fun x hx => ?_, h2', by simp; omega⟩
      rcases List.mem_append.mp hx with hx | hx
      · exact h1 x hx
      · rw [List.mem_singleton.mp hx]; exact h2 y List.mem_cons_self
    · rintro fnd S2 ⟨HB, h1, -, h3⟩
      simp only [List.length_nil, Nat.add_zero] at h3
      refine ⟨by omega, _, rfl, ?_⟩
      fail "wgx"
      with_reducible refine W_cut (fun e S' => ∃ fnd : List Nat, Bx S k S' ∧ e = [some (rf k), some (.list (spots.map nD)), some (nD s), some (nD last), some (.list (some'.map nD)), none, some (.list (fnd.map nD))] ∧ (∀ x ∈ fnd, x ∈ some') ∧ fnd.length ≤ some'.length) ?_ ?_
      · with_reducible refine W_ifs ?_
        with_reducible refine R_and ?_
        fail "wgx"
        refine R_neNilF nD_pl ?_
        refine ⟨_, rfl, fun k1 => ?_, fun _ => ?_⟩
        · have hne : some' ≠ [] := by simpa using k1
          fail "wgx"
          refine R_eqNilF nD_pl ?_
          refine ⟨_, rfl, fun _ => ?_, fun _ => ?_⟩
          · fail "wgx"
            refine R_drw0 (pick_d (n + 0) k hne (by omega) gnd_nD (fun _ => rfl) fun _ => rfl) HB hS ?_
            rintro d S3 ⟨a, ha, rfl⟩ H3
            fail "wgx"
            refine ⟨by simp, _, rfl, ?_⟩
            fail "wgx"
            refine ⟨[a], H3, rfl, fun x hx => by rw [List.mem_singleton.mp hx]; exact ha, ?_⟩
            have := List.length_pos_iff.mpr hne
            simp; omega
          · fail "wgx"
            exact ⟨fnd, HB, rfl, h1, h3⟩
        · refine ⟨false, rfl, fun k => absurd k (by simp), fun _ => ?_⟩
          fail "wgx"
          exact ⟨fnd, HB, rfl, h1, h3⟩
      · rintro e S' ⟨fnd, HB, rfl, h1, h3⟩
        fail "wgx"
        with_reducible refine R_cut (fun d S' => Bx S k S' ∧ ∃ pre : List (Option Nat), d = .list (pre.map oD) ∧ (∀ x ∈ pre, x = none) ∧ pre.length ≤ 1 ∧ (fnd = [] → pre ≠ [])) ?_ ?_
        · with_reducible refine R_ite ?_
          with_reducible refine R_or ?_
          fail "wgx"
          refine R_eqNilF nD_pl ?_
          refine ⟨_, rfl, fun _ => ⟨true, rfl, fun _ => ?_, fun k => absurd k (by simp)⟩, fun k1 => ?_⟩
          · fail "wgx"
            refine ⟨_, rfl, by simp, HB, [none], rfl, by simp, by simp, by simp⟩
          · have hne : fnd ≠ [] := by simpa using k1
            fail "wgx"
            refine R_drw0 (take_d (n + 1) k (m := 4) (by omega) (by omega)) HB hS ?_
            rintro d S3 ⟨i, rfl, hi⟩ H3
            fail "wgx"
            refine ⟨_, rfl, fun _ => ?_, fun _ => ?_⟩
            · fail "wgx"
              refine ⟨_, rfl, by simp, H3, [none], rfl, by simp, by simp, by simp⟩
            · fail "wgx"
              exact ⟨H3, [], rfl, by simp, by simp, fun q => absurd q hne⟩
        · rintro d S2 ⟨HB, pre, rfl, p1, p2, p3⟩
          fail "wgx"
          refine R_sortO (l := fnd.map some) (by rw [← nD_oD]; rfl) (by rw [List.length_map]; omega) ?_
          have hlen : (pre ++ osort (fnd.map some)).length ≤ spots.length + 1 := by
            rw [List.length_append, osort_len, List.length_map]; omega
          refine R_addL (x := pre.map oD) (y := (osort (fnd.map some)).map oD) rfl rfl (by rw [List.length_append] at hlen; simp only [List.length_map]; omega) ?_
          fail "wgx"
          refine R_tuple rfl ?_
          rw [← List.map_append]
          refine ⟨S2, [], (List.append_nil _).symm, HB, .inl ⟨rfl, gndL_map gnd_oD _, pre ++ osort (fnd.map some), rfl, ?_, hlen, ?_⟩⟩
          · intro q
            obtain ⟨q1, q2⟩ := List.append_eq_nil_iff.mp q
            have : fnd = [] := by
              have := congrArg List.length q2
              rw [osort_len, List.length_map] at this
              exact List.length_eq_zero_iff.mp this
            exact p3 this q1
          · intro t ht
            rcases List.mem_append.mp ht with ht | ht
            · exact absurd (p1 _ ht) (by simp)
            · rw [osort_mem] at ht
              obtain ⟨x, hx, e⟩ := List.mem_map.mp ht
              simp only [Option.some.injEq] at e
              subst e
              exact hsm _ (h1 _ hx)
end Lw

set_option linter.all false
set_option maxRecDepth 100000
/-! Lw.I: drawn houses and stands. -/
namespace Lw
open PySem DL L2 Hs
def hsP : D → Prop := fun d => ∃ h, d = hD h ∧ Wf h
theorem rng_drop {C i y : Nat} {r : List Nat} (h : y :: r = (List.range C).drop i) : y = i ∧ i < C ∧ r = (List.range C).drop (i + 1) := by
  have h0 : (List.range C)[i]? = some y := by
    have := congrArg (fun z => z[0]?) h
    simpa using this.symm
  have hi : i < C := by
    have := (List.getElem?_eq_some_iff.mp h0).1
    simpa using this
  refine ⟨?_, hi, ?_⟩
  · rw [List.getElem?_range hi] at h0
    exact (Option.some.inj h0).symm
  · have := congrArg (List.drop 1) h
    rw [List.drop_drop] at this
    simpa using this
theorem house_d (n k : Nat) {P C : Nat} (hP0 : 0 < P) (hP : P ≤ 30) (hC0 : 0 < C) (hC : C ≤ 30) (e : Bool) : Drw k (DL.run tab (n + 4) 16 [rf k, nD P, nD C, .bool e]) hsP := by
  refine Drw.of (fun S => r__law_drawn_house (n + 3) _ _ _ _ S) fun S H hS => ?_
  rw [List.append_nil]
  unfold b__law_drawn_house
  fail "wgx"
  with_reducible refine R_compI nD nD (fun l acc S' => Bx S k S' ∧ (∀ x ∈ acc, 1 ≤ x ∧ x ≤ 2) ∧ acc.length + l.length = P) ?_
  fail "wgx"
  refine ⟨List.range P, none, rng1_n (by omega) S, ⟨H, fun x hx => absurd hx (by simp), by simp⟩, fun _ _ _ _ => rfl, ?_, ?_⟩
  · rintro y r acc S2 ⟨HB, h1, h3⟩
    refine ⟨_, rfl, R_all0 ⟨fun _ => ?_, fun k => absurd k (by simp)⟩⟩
    fail "wgx"
    refine ⟨by simp, ?_⟩
    fail "wgx"
    refine R_drw0 (pick_d (n + 1) k (l := [1, 1, 1, 2]) (by simp) (by simp) gnd_nD (fun _ => rfl) fun _ => rfl) HB hS ?_
    rintro d S3 ⟨a, ha, rfl⟩ H3
    refine ⟨a, rfl, H3, fun x hx => ?_, by simp at h3 ⊢; omega⟩
    rcases List.mem_append.mp hx with hx | hx
    · exact h1 x hx
    · rw [List.mem_singleton.mp hx]
      simp at ha
      omega
  · rintro seats S2 ⟨HB, h1, h3⟩
    simp only [List.length_nil, Nat.add_zero] at h3
    refine ⟨by omega, ?_⟩
    fail "wgx"
    refine R_tuple rfl ⟨_, rfl, ?_⟩
    fail "wgx"
    with_reducible refine R_compI nD nD (fun l acc S' => Bx S k S' ∧ (∀ x ∈ acc, x < P) ∧ acc.length + l.length = C) ?_
    fail "wgx"
    refine ⟨List.range C, none, rng1_n (by omega) _, ⟨HB, fun x hx => absurd hx (by simp), by simp⟩, fun _ _ _ _ => rfl, ?_, ?_⟩
    · rintro y r acc S4 ⟨HB, h4, h5⟩
      refine ⟨_, rfl, R_all0 ⟨fun _ => ?_, fun k => absurd k (by simp)⟩⟩
      fail "wgx"
      refine R_drw0 (take_d (n + 2) k hP0 (by omega)) HB hS ?_
      rintro d S3 ⟨i, rfl, hi⟩ H3
      refine ⟨i, rfl, H3, fun x hx => ?_, by simp at h5 ⊢; omega⟩
      rcases List.mem_append.mp hx with hx | hx
      · exact h4 x hx
      · rw [List.mem_singleton.mp hx]; exact hi
    · rintro spots S4 ⟨HB, h4, h5⟩
      simp only [List.length_nil, Nat.add_zero] at h5
      refine ⟨by omega, _, rfl, ?_⟩
      fail "wgx"
      with_reducible refine R_compI nD stgD (fun l acc S' => Bx S k S' ∧ l = (List.range C).drop acc.length ∧ acc.length ≤ C ∧ ∀ x ∈ acc, x.1 < P ∧ x.2.length ≤ 31 ∧ ∀ t, some t ∈ x.2 → t < C) ?_
      fail "wgx"
      refine ⟨List.range C, none, rng1_n (by omega) _, ⟨HB, rfl, Nat.zero_le _, fun x hx => absurd hx (by simp)⟩, fun _ _ _ _ => rfl, ?_, ?_⟩
      · rintro y r acc S5 ⟨HB, h6, h7, h8⟩
        obtain ⟨rfl, hi, hr⟩ := rng_drop h6
        refine ⟨_, rfl, R_all0 ⟨fun _ => ?_, fun k => absurd k (by simp)⟩⟩
        fail "wgx"
        refine R_spot rfl (by omega) ?_
        fail "wgx"
        with_reducible refine R_cut (fun d S' => S' = S5 ∧ ∃ last : Nat, d = nD last ∧ last ≤ 30) ?_ ?_
        · with_reducible refine R_ite ?_
          fail "wgx"
          refine ⟨e, rfl, fun _ => ?_, fun _ => ?_⟩
          · fail "wgx"
            exact ⟨rfl, _, rfl, by omega⟩
          · fail "wgx"
            exact ⟨rfl, 0, rfl, by omega⟩
        · rintro d S' ⟨rfl, last, rfl, hlast⟩
          fail "wgx"
          ((have hd := (nexts_d n k (spots := spots) (s := acc.length) (last := last) (by omega) (by omega) hlast)); (with_reducible refine DL.R_drw0 hd HB hS ?_); clear hd)
          rintro d S6 ⟨nx, rfl, n1, n2, n3⟩ H6
          fail "wgx"
          refine ⟨by simp, (spots.getD acc.length 0, nx), rfl, H6, by rw [List.length_append]; exact hr, by rw [List.length_append]; exact hi, fun x hx => ?_⟩
          rcases List.mem_append.mp hx with hx | hx
          · exact h8 x hx
          · rw [List.mem_singleton.mp hx]
            refine ⟨h4 _ ?_, by simp only; omega, fun t ht => ?_⟩
            · have hi2 : acc.length < spots.length := by omega
              rw [show spots.getD acc.length 0 = spots[acc.length] by rw [List.getD_eq_getElem?_getD, List.getElem?_eq_getElem hi2]; rfl]
              exact List.getElem_mem _
            · rw [← h5]; exact (n3 t ht).1
      · rintro rows S5 ⟨HB, h6, h7, h8⟩
        have hlen : rows.length = C := by
          have := congrArg List.length h6
          simp at this
          omega
        refine ⟨by omega, _, rfl, ?_⟩
        fail "wgx"
        refine R_tuple rfl ?_
        fail "wgx"
        have gm : ∀ s, s < rows.length → rows.getD s (0, []) ∈ rows := fun s hs => by
          rw [List.getD_eq_getElem?_getD, List.getElem?_eq_getElem hs]
          exact List.getElem_mem _
        have gs : ∀ p, p < seats.length → seats.getD p 0 ∈ seats := fun s hs => by
          rw [List.getD_eq_getElem?_getD, List.getElem?_eq_getElem hs]
          exact List.getElem_mem _
        refine ⟨by simp, S5, [], (List.append_nil _).symm, HB, .inl ⟨rfl, gnd_hD ⟨seats, rows⟩, ⟨seats, rows⟩, rfl, ?_⟩⟩
        refine ⟨by simp only; omega, by simp only; omega, by simp only; omega, by simp only; omega, fun p hp => h1 _ (gs p hp), fun s hs => ?_, fun s hs => (h8 _ (gm s hs)).2.1, fun s hs t ht => ?_⟩
        · show (rows.getD s (0, [])).1 < seats.length
          rw [h3]; exact (h8 _ (gm s hs)).1
        · show t < rows.length
          rw [hlen]; exact (h8 _ (gm s hs)).2.2 t ht
theorem some_house_d (n k : Nat) : Drw k (DL.run tab (n + 5) 24 [rf k]) hsP := by
  refine Drw.of (fun S => r__law_some_house (n + 4) _ S) fun S H hS => ?_
  rw [List.append_nil]
  unfold b__law_some_house
  have fin : ∀ {d : D} {S2 : Store}, hsP d → Bx S k S2 → RtB S k hsP d S2 := fun {d S2} p HB => by
    obtain ⟨h, rfl, w⟩ := p
    exact ⟨S2, [], (List.append_nil _).symm, HB, .inl ⟨rfl, gnd_hD h, h, rfl, w⟩⟩
  fail "wgx"
  with_reducible refine W_ifs ?_
  fail "wgx"
  refine R_drw0 (take_d (n + 3) k (m := 3) (by omega) (by omega)) H hS ?_
  rintro d S2 ⟨i, rfl, hi⟩ H2
  fail "wgx"
  refine ⟨_, rfl, fun _ => ?_, fun _ => ?_⟩
  · fail "wgx"
    refine ⟨by simp, ?_⟩
    fail "wgx"
    refine R_drw0 (pick_d (n + 2) k (l := [10, 9, 1]) (by simp) (by simp) gnd_nD (fun _ => rfl) fun _ => rfl) H2 hS ?_
    rintro d S3 ⟨a, ha, rfl⟩ H3
    fail "wgx"
    refine ⟨by simp, ?_⟩
    fail "wgx"
    refine R_drw0 (pick_d (n + 2) k (l := [24, 23, 12]) (by simp) (by simp) gnd_nD (fun _ => rfl) fun _ => rfl) H3 hS ?_
    rintro d S4 ⟨b, hb, rfl⟩ H4
    fail "wgx"
    simp only [List.mem_cons, List.not_mem_nil, or_false] at ha hb
    ((have hd := (house_d n k (P := a) (C := b) (by omega) (by omega) (by omega) (by omega) false)); (with_reducible refine DL.R_drw0 hd H4 hS ?_); clear hd)
    exact fun d S5 p H5 => fin p H5
  · fail "wgx"
    refine R_drw0 (take_d (n + 3) k (m := 5) (by omega) (by omega)) H2 hS ?_
    rintro d S3 ⟨a, rfl, ha⟩ H3
    fail "wgx"
    refine R_drw0 (take_d (n + 3) k (m := 8) (by omega) (by omega)) H3 hS ?_
    rintro d S4 ⟨b, rfl, hb⟩ H4
    fail "wgx"
    refine R_drw0 (take_d (n + 3) k (m := 3) (by omega) (by omega)) H4 hS ?_
    rintro d S5 ⟨c, rfl, hc⟩ H5
    fail "wgx"
    ((have hd := (house_d n k (P := 1 + a) (C := 1 + b) (by omega) (by omega) (by omega) (by omega) (decide (c = 0)))); (with_reducible refine DL.R_drw0 hd H5 hS ?_); clear hd)
    exact fun d S5 p H5 => fin p H5
/-! ### stands -/
structure Sv (h : H) (st : Stand) : Prop where
  len : st.length = h.seats.length
  le : ∀ p, p < st.length → (at_ st p).length ≤ seat h p
  ok : ∀ p, p < st.length → ∀ g ∈ at_ st p, g.1 < h.stages.length ∧ plc h g.1 = p ∧ g.2 ∈ nxs h g.1
def stP (h : H) : D → Prop := fun d => ∃ st, d = standD st ∧ Sv h st
theorem stand_d (n k : Nat) {h : H} (V : Wf h) (much : Nat) : Drw k (DL.run tab (n + 3) 17 [rf k, hD h, nD much]) (stP h) := by
  refine Drw.of (fun S => r__law_any_stand (n + 2) _ _ _ S) fun S H hS => ?_
  unfold b__law_any_stand
  fail "wgx"
  refine R_newL rfl rfl ?_
  fail "wgx"
  refine ⟨rfl, by simp, _, rfl, ?_⟩
  fail "wgx"
  with_reducible refine W_frl (α := Nat × Nat) (enD nD) (fun l env S' => ∃ (acc : Stand) (S1 : Store) (x4 x5 x6 x7 x8 : Option D), l = h.seats.zipIdx.drop acc.length ∧ acc.length ≤ h.seats.length ∧ (∀ p, p < acc.length → (at_ acc p).length ≤ seat h p ∧ ∀ g ∈ at_ acc p, g.1 < h.stages.length ∧ plc h g.1 = p ∧ g.2 ∈ nxs h g.1) ∧ Bx S k S1 ∧ S' = S1 ++ [.lst (acc.map gsD)] ∧ env = [some (rf k), some (hD h), some (nD much), some (rf (S.length + 0)), x4, x5, x6, x7, x8]) ?_
  fail "wgx"
  have hp := V.pl
  refine ⟨h.seats.zipIdx, none, enum_n rfl rfl, ⟨[], S, none, none, none, none, none, rfl, Nat.zero_le _, fun p hp => absurd hp (Nat.not_lt_zero _), H, rfl, rfl⟩, fun _ _ _ _ => rfl, ?_, ?_⟩
  · rintro ⟨sv, i⟩ r env S2 ⟨acc, S1, x4, x5, x6, x7, x8, hl, ha, hok, HB, rfl, rfl⟩
    obtain ⟨e1, e2, e3⟩ := zip_some hl.symm
    simp only at e1 e2
    subst e1
    have hi : acc.length < h.seats.length := (List.getElem?_eq_some_iff.mp e2).1
    have hsv : seat h acc.length = sv := by
      have := get_seat hi
      rw [e2] at this
      exact (Option.some.inj this).symm
    have hsv2 := V.se _ hi
    rw [hsv] at hsv2
    have hl1 := HB.len
    refine ⟨_, rfl, ?_⟩
    fail "wgx"
    rw [kinds_eq (n + 1) V acc.length]
    refine R_ok ⟨_, rfl, ?_⟩
    fail "wgx"
    with_reducible refine R_compI nD gD (fun l acc' S' => ∃ S1, S' = S1 ++ [.lst (acc.map gsD)] ∧ Bx S k S1 ∧ (∀ g ∈ acc', g ∈ kinds h acc.length) ∧ acc'.length + l.length ≤ sv) ?_
    fail "wgx"
    have hkl := kinds_len V acc.length
    refine ⟨List.range sv, none, rng1_n (by omega) _, ⟨S1, rfl, HB, fun x hx => absurd hx (by simp), by simp⟩, fun _ _ _ _ => rfl, ?_, ?_⟩
    · rintro y r2 acc' S3 ⟨S4, rfl, H4, h1, h2⟩
      simp only [List.length_cons] at h2
      refine ⟨_, rfl, ?_⟩
      fail "wgx"
      with_reducible refine R_and ?_
      fail "wgx"
      refine R_neNilF gD_plain ?_
      refine ⟨_, rfl, fun k1 => ?_, fun _ => ⟨_, rfl, fun k => absurd k (by simp), fun _ => ⟨S4, rfl, H4, h1, by omega⟩⟩⟩
      have hne : kinds h acc.length ≠ [] := by simpa using k1
      fail "wgx"
      refine R_drw (take_d (n + 1) k (m := 4) (by omega) (by omega)) H4 hS rfl ?_
      rintro d S5 ⟨j, rfl, hj⟩ H5
      fail "wgx"
      refine ⟨_, rfl, fun _ => ?_, fun _ => ⟨S5, rfl, H5, h1, by omega⟩⟩
      fail "wgx"
      refine R_drw (pick_d (n + 0) k hne (by omega) gnd_gD (fun _ => rfl) fun _ => rfl) H5 hS rfl ?_
      rintro d S6 ⟨g, hg, rfl⟩ H6
      refine ⟨g, rfl, S6, rfl, H6, fun x hx => ?_, by simp; omega⟩
      rcases List.mem_append.mp hx with hx | hx
      · exact h1 x hx
      · rw [List.mem_singleton.mp hx]; exact hg
    · rintro gs S3 ⟨S4, rfl, H4, h1, h2⟩
      simp only [List.length_nil, Nat.add_zero] at h2
      refine ⟨by omega, _, rfl, ?_⟩
      have hl4 := H4.len
      fail "wgx"
      refine ⟨by rw [lst_loc hl4 (c := 0) rfl]; rfl, ?_⟩
      fail "wgx"
      refine R_sortG rfl (by omega) ?_
      fail "wgx"
      refine R_tuple rfl ?_
      fail "wgx"
      refine R_append hl4 (c := 0) rfl (by rw [List.length_map]; omega) ?_
      fail "wgx"
      refine ⟨acc ++ [gsort gs], S4, _, _, _, _, _, ?_, by simp; omega, fun p hp => ?_, H4, ?_, rfl⟩
      · rw [List.length_append]; exact e3.symm
      · rw [List.length_append, List.length_singleton] at hp
        by_cases c : p < acc.length
        · have e : at_ (acc ++ [gsort gs]) p = at_ acc p := by
            unfold at_
            rw [List.getD_eq_getElem?_getD, List.getD_eq_getElem?_getD, List.getElem?_append_left c]
          rw [e]
          exact hok p c
        · have c2 : p = acc.length := by omega
          subst c2
          have e : at_ (acc ++ [gsort gs]) acc.length = gsort gs := by
            unfold at_
            rw [List.getD_eq_getElem?_getD, List.getElem?_append_right (Nat.le_refl _)]
            simp
          rw [e]
          refine ⟨by rw [gsort_len, hsv]; exact h2, fun g hg => ?_⟩
          rw [gsort_mem] at hg
          exact kinds_mem (h1 g hg)
      · simp [setL, gsD]
  · rintro env S2 ⟨acc, S1, x4, x5, x6, x7, x8, hl, ha, hok, HB, rfl, rfl⟩
    have hlen : acc.length = h.seats.length := by
      have := congrArg List.length hl
      simp at this
      omega
    fail "wgx"
    refine R_tupleL HB.len (c := 0) rfl ?_
    exact ⟨S1, _, rfl, HB, .inl ⟨rfl, gnd_stD acc, acc, rfl, hlen, fun p hp => (hok p hp).1, fun p hp => (hok p hp).2⟩⟩
end Lw

set_option linter.all false
set_option maxRecDepth 100000
/-! Hs.U: lists of a def's own, laid by a row; defs that draw with lists of their caller. -/
namespace Hs
open PySem DL L2
theorem R_compT {α β : Type} {F : FS} {env : DL.Env} {Q : D → Store → Prop} {X : Nat → D → Store → Prop} {own : List Nat} {t : Tg} {k : IK} {its ifs : List Ex} {x : Ex} {S1 Y : Store} {L c : Nat} (enc : α → D) (out : β → D) (I : List α → List β → Store → Prop) (hl : S1.length = L) (hc : Y.length = c) (hLs : ∀ l acc S1', I l acc S1' → S1'.length = L)
    (h : R (evs F its env (S1 ++ Y)) (fun vs S2 => S2 = S1 ++ Y ∧ ∃ (l : List α) (g : Option Nat), itemsV k vs S2 = .ok (l.map enc, g) S2 ∧ I l [] S1 ∧ (∀ l acc S1', I l acc S1' → still g (S1 ++ Y) (S1' ++ (Y ++ [.lst (acc.map out)])) = true) ∧
      (∀ y r acc S1', I (y :: r) acc S1' → acc.length < 100000 ∧ CI F own t ifs x env (enc y) (S1' ++ (Y ++ [.lst (acc.map out)])) (fun o S3 => ∃ S1'', S3 = S1'' ++ (Y ++ [.lst (acc.map out)]) ∧ match o with
        | some d => ∃ b, d = out b ∧ I r (acc ++ [b]) S1''
        | none => I r acc S1'')) ∧ ∀ bs S1', I [] bs S1' → Q (rf (L + c)) (S1' ++ (Y ++ [.lst (bs.map out)]))) X) : R (DL.ev F (.comp true own t k its ifs x) env (S1 ++ Y)) Q X := by
  rw [comp_eq]
  unfold evI
  refine R_bind (R_bind (R_bind (h.mono fun vs S2 ⟨e0, l, g, e1, hI, hs, hv, q⟩ => ?_)))
  subst e0
  rw [e1]
  refine R_ok (R_ok ?_)
  have key : ∀ (l : List α) (acc : List β) (S1' : Store), I l acc S1' → ∃ bs S1e, compLoopM g (S1 ++ Y) (L + c) (compF F own t ifs x env) (l.map enc) (S1' ++ (Y ++ [.lst (acc.map out)])) = .ok () (S1e ++ (Y ++ [.lst (bs.map out)])) ∧ I [] bs S1e := by
    intro l
    induction l with
    | nil =>
      intro acc S1' hI
      refine ⟨acc, S1', ?_, hI⟩
      show (if still g (S1 ++ Y) (S1' ++ (Y ++ [.lst (acc.map out)])) then Res.ok () _ else .bad) = _
      rw [if_pos (hs _ _ _ hI)]
    | cons y r ih =>
      intro acc S1' hI
      obtain ⟨hz, hci⟩ := hv y r acc S1' hI
      obtain ⟨o, S3, e3, S1'', rfl, h3⟩ := hci.get
      have step : compLoopM g (S1 ++ Y) (L + c) (compF F own t ifs x env) ((y :: r).map enc) (S1' ++ (Y ++ [.lst (acc.map out)])) = (if still g (S1 ++ Y) (S1' ++ (Y ++ [.lst (acc.map out)])) then (compF F own t ifs x env (enc y) (S1' ++ (Y ++ [.lst (acc.map out)]))).bind (fun o S' => match o with
        | some y => match atL S' (L + c) with
          | some acc => if acc.length < sizeLine then compLoopM g (S1 ++ Y) (L + c) (compF F own t ifs x env) (r.map enc) (setL S' (L + c) (acc ++ [y])) else .bad
          | none => .bad
        | none => compLoopM g (S1 ++ Y) (L + c) (compF F own t ifs x env) (r.map enc) S') else .bad) := rfl
      rw [step, if_pos (hs _ _ _ hI), e3]
      cases o with
      | none => exact ih acc S1'' h3
      | some d =>
        obtain ⟨b, rfl, h4⟩ := h3
        have hl2 := hLs _ _ _ h4
        have ha : atL (S1'' ++ (Y ++ [.lst (acc.map out)])) (L + c) = some (acc.map out) := by
          rw [atL_loc hl2]
          subst hc
          simp [atL]
        let acc0 := acc
        show ∃ bs S1e, (match atL (S1'' ++ (Y ++ [.lst (acc.map out)])) (L + c) with
          | some acc => if acc.length < sizeLine then compLoopM g (S1 ++ Y) (L + c) (compF F own t ifs x env) (r.map enc) (setL (S1'' ++ (Y ++ [MO.lst (acc0.map out)])) (L + c) (acc ++ [out b])) else .bad
          | none => .bad) = _ ∧ _
        rw [ha]
        have hz2 : (acc.map out).length < sizeLine := by rw [List.length_map, sizeLine_eq]; omega
        simp only [if_pos hz2]
        have hset : setL (S1'' ++ (Y ++ [.lst (acc.map out)])) (L + c) (acc.map out ++ [out b]) = S1'' ++ (Y ++ [.lst ((acc ++ [b]).map out)]) := by
          rw [setL_loc hl2]
          subst hc
          simp [setL]
        rw [hset]
        exact ih (acc ++ [b]) S1'' h4
  obtain ⟨bs, S1e, e2, hI2⟩ := key l [] S1 hI
  have hn : (S1 ++ Y).length = L + c := by rw [List.length_append, hl, hc]
  refine R_eq (a := rf (L + c)) (S := S1e ++ (Y ++ [.lst (bs.map out)])) ?_ (q bs S1e hI2)
  show (Res.noexc (compLoopM g (S1 ++ Y) (S1 ++ Y).length (compF F own t ifs x env) (l.map enc) ((S1 ++ Y) ++ [.lst []]))).bind (fun _ S' => .ok (rf (S1 ++ Y).length) S') = _
  rw [hn, List.append_assoc]
  have e3 : compLoopM g (S1 ++ Y) (L + c) (compF F own t ifs x env) (l.map enc) (S1 ++ (Y ++ [.lst []])) = _ := e2
  rw [e3]
  rfl
/-! ### slices -/
theorem cut_take {α : Type} (f : α → D) (l : List α) (p : Nat) (h : p ≤ l.length) : cutD (l.map f) none (some (p : Int)) = (l.take p).map f := by
  unfold cutD
  have e1 : HT.sIx (l.map f).length 0 none = 0 := rfl
  have e2 : HT.sIx (l.map f).length (l.map f).length (some (p : Int)) = p := by
    unfold HT.sIx
    have : ¬ ((p : Int) < 0) := by omega
    simp [this]
    omega
  rw [e1, e2]
  simp
theorem R_slcT {Q : D → Store → Prop} {X : Nat → D → Store → Prop} {S : Store} {α : Type} {f : α → D} {l : List α} {p : Nat} (hp : p ≤ l.length) (hz : l.length ≤ 100000) (h : Q (.list ((l.take p).map f)) S) : R (slcV false (.list (l.map f)) none (some (p : Int)) S) Q X := by
  refine R_eq (a := .list ((l.take p).map f)) (S := S) ?_ h
  show mkL false (cutD (l.map f) none (some (p : Int))) S = _
  rw [cut_take f l p hp]
  have z : ((l.take p).map f).length ≤ sizeLine := by rw [List.length_map, List.length_take, sizeLine_eq]; omega
  simp only [mkL, if_pos z]
  rfl
theorem rngD_n (n : Nat) : rngD 0 (n : Int) = (List.range n).map nD := by
  unfold rngD
  rw [show ((n : Int) - 0).toNat = n by omega]
  refine List.map_congr_left fun k _ => ?_
  simp [nD]
theorem R_lrng {Q : D → Store → Prop} {X : Nat → D → Store → Prop} {S : Store} {n : Nat} (hn : n ≤ 100000) (h : Q (.list ((List.range n).map nD)) S) : R (bltV .lrng1 false [.int (n : Int)] S) Q X := by
  refine R_eq (a := .list ((List.range n).map nD)) (S := S) ?_ h
  show lrng1V false [.int (n : Int)] S = _
  have h1 : -(2 ^ 62) ≤ (n : Int) ∧ (n : Int) ≤ 16777216 := by omega
  have z : ((List.range n).map nD).length ≤ sizeLine := by rw [List.length_map, List.length_range, sizeLine_eq]; omega
  simp only [lrng1V, if_pos h1, rngD_n, mkL, if_pos z]
  rfl
/-! ### drawing, with lists of the caller -/
def DrwC (C : Store → Prop) (k : Nat) (f : Store → Res D) (P : D → Prop) : Prop := ∀ S, Bx S k S → lsts S = true → C S → ∃ d S', f S = .ok d S' ∧ Bx S k S' ∧ P d
theorem R_drwC {C : Store → Prop} {k : Nat} {f : Store → Res D} {P : D → Prop} {Q : D → Store → Prop} {X : Nat → D → Store → Prop} {S0 S1 Y : Store} (hd : DrwC C k f P) (H : Bx S0 k S1) (h0 : lsts S0 = true) (hY : lsts Y = true) (hC : C (S1 ++ Y)) (h : ∀ d S2, P d → Bx S0 k S2 → Q d (S2 ++ Y)) : R (f (S1 ++ Y)) Q X := by
  obtain ⟨d, S', e, HB, p⟩ := hd (S1 ++ Y) (H.add Y) (lsts_add (H.lsts h0) hY) hC
  obtain ⟨S2, rfl, H2⟩ := H.split HB
  rw [e]
  exact h d S2 p H2
theorem DrwC.of {C : Store → Prop} {k : Nat} {f : Store → Res D} {P : D → Prop} {F : FS} {b : List Sm} {env : DL.Env} (hf : ∀ S, f S = DL.gc true S (DL.execs F b env S)) (h : ∀ S, Bx S k S → lsts S = true → C S → W (DL.execs F b env (S ++ [])) ⟨fun _ _ => False, RtB S k P, fun _ _ => False, fun _ _ => False, nX⟩) : DrwC C k f P := by
  intro S H hS hC
  have hw := h S H hS hC
  rw [List.append_nil] at hw
  rw [hf]
  cases e : DL.execs F b env S with
  | nx e2 S2 => rw [e] at hw; exact hw.elim
  | bk e2 S2 => rw [e] at hw; exact hw.elim
  | ct e2 S2 => rw [e] at hw; exact hw.elim
  | exc c d e2 S2 => rw [e] at hw; exact hw.elim
  | bad => rw [e] at hw; exact hw.elim
  | rt d S' =>
    rw [e] at hw
    obtain ⟨S1, Y, rfl, HB, ⟨h1, h2, h3⟩ | ⟨c, xs, rfl, h1, h2, h3⟩⟩ := hw
    · exact ⟨d, S1, HB.gc hS Y h2 h1, HB, h3⟩
    · exact ⟨.list xs, S1, HB.gcL hS Y h1 h2, HB, h3⟩
theorem _root_.DL.Bx.keep {S S' : Store} {k j : Nat} {xs : List D} (H : Bx S k S') (Y : Store) (h : atL S j = some xs) (hj : j ≠ k) : atL (S' ++ Y) j = some xs := by
  obtain ⟨hk, a, b, rfl⟩ := H
  have hjl : j < S.length := by
    by_cases q : j < S.length
    · exact q
    · unfold atL at h; rw [List.getElem?_eq_none (by omega)] at h; cases h
  unfold atL setL at *
  rw [List.getElem?_append_left (by simpa using hjl), List.getElem?_set_ne (Ne.symm hj)]
  exact h
theorem seq_at {S : Store} {j : Nat} {xs : List D} (h : atL S j = some xs) : seqOf S (rf j) = some xs := by
  show atL S (j : Int).toNat = some xs
  rw [Int.toNat_natCast]; exact h
theorem res_at {S : Store} {j : Nat} {xs : List D} (h : atL S j = some xs) : res S (rf j) = .list xs := by
  show (match atL S (j : Int).toNat with
    | some xs => PyData.list xs
    | none => PyData.dict [(.int (j : Int), .none)]) = _
  rw [Int.toNat_natCast, h]
end Hs

set_option linter.all false
set_option maxRecDepth 100000
/-! Lw.J: nexts near others. -/
namespace Lw
open PySem DL L2 Hs
theorem pickL_d (n k j : Nat) {α : Type} {f : α → D} {l : List α} (hj : j ≠ k) (hl : l ≠ []) (hz : l.length ≤ 100000) (hg : ∀ a, gnd (f a) = true) (hn : ∀ a, locOf (f a) = none) : DrwC (fun S => atL S j = some (l.map f)) k (DL.run tab (n + 2) 9 [rf k, rf j]) (pickP f l) := by
  refine DrwC.of (fun S => r__law_pick (n + 1) (rf k) (rf j) S) fun S H hS hC => ?_
  unfold b__law_pick
  have : 0 < l.length := List.length_pos_iff.mpr hl
  fail "wgx"
  refine R_lenMap (seq_at (H.keep [] hC hj)) ?_
  fail "wgx"
  refine R_drw (take_d n k this (by omega)) H hS rfl ?_
  rintro d S2 ⟨i, rfl, hi⟩ H2
  refine R_map (seq_at (H2.keep [] hC hj)) (List.getElem?_eq_getElem hi) ?_
  exact ⟨S2, [], rfl, H2, .inl ⟨hn _, hg _, _, List.getElem_mem _, rfl⟩⟩
def rowP (m : Nat) : D → Prop := fun d => ∃ l : List (Option Nat), d = .tuple (l.map oD) ∧ l.length ≤ m
theorem near_d (n k j : Nat) {spots : List Nat} {place : Nat} {nexts : List (Option Nat)} (hj : j ≠ k) (hC : spots.length ≤ 32) (hn : nexts.length ≤ 31) (hok : ∀ t, some t ∈ nexts → t < spots.length) : DrwC (fun S => atL S j = some (spots.map nD)) k (DL.run tab (n + 3) 18 [rf k, rf j, nD place, .list (nexts.map oD)]) (rowP 40) := by
  refine DrwC.of (fun S => r__law_nexts_near (n + 2) _ _ _ _ S) fun S H hS hat => ?_
  have hspot : ∀ {S1 : Store} (Y : Store), Bx S k S1 → seqOf (S1 ++ Y) (rf j) = some (spots.map nD) := fun Y HB => seq_at (HB.keep Y hat hj)
  have hfk : S.length + 0 ≠ k := by have := H.1; omega
  unfold b__law_nexts_near
  fail "wgx"
  with_reducible refine R_compT (c := 0) oD oD (fun l acc S1 => S1 = S ∧ (∀ t, some t ∈ l → t < spots.length) ∧ acc.length + l.length ≤ 31) rfl rfl (by rintro l acc S1 ⟨rfl, -, -⟩; rfl) ?_
  fail "wgx"
  refine ⟨rfl, nexts, none, val_n rfl rfl, ⟨rfl, hok, by simp; omega⟩, fun _ _ _ _ => rfl, ?_, ?_⟩
  · rintro a r acc S1 ⟨rfl, h1, h2⟩
    simp only [List.length_cons] at h2
    have h1' : ∀ t, some t ∈ r → t < spots.length := fun t ht => h1 t (List.mem_cons_of_mem _ ht)
    refine ⟨by omega, _, rfl, ?_⟩
    fail "wgx"
    with_reducible refine R_or ?_
    fail "wgx"
    have yes : ∀ (d : D) (S2 : Store), d = oD a → S2 = S1 ++ ([] ++ [.lst (acc.map oD)]) → ∃ S1'', S2 = S1'' ++ ([] ++ [.lst (acc.map oD)]) ∧ ∃ b, d = oD b ∧ S1'' = S1 ∧ (∀ t, some t ∈ r → t < spots.length) ∧ (acc ++ [b]).length + r.length ≤ 31 := fun d S2 e1 e2 => ⟨S1, e2, a, e1, rfl, h1', by simp; omega⟩
    cases a with
    | none =>
      refine ⟨_, rfl, ?_⟩
      fail "wgx"
      refine ⟨_, rfl, fun _ => ⟨true, rfl, fun _ => ?_, fun k => absurd k (by simp)⟩, fun k => absurd k (by simp [nI])⟩
      fail "wgx"
      exact yes _ _ rfl rfl
    | some t =>
      refine ⟨_, rfl, ?_⟩
      fail "wgx"
      refine ⟨_, rfl, fun k => absurd k (by simp [nI]), fun _ => ?_⟩
      fail "wgx"
      refine R_spot (i := t) (hspot _ H) (h1 t List.mem_cons_self) ?_
      fail "wgx"
      refine ⟨_, rfl, fun _ => ?_, fun _ => ⟨S1, rfl, rfl, h1', by omega⟩⟩
      fail "wgx"
      exact yes _ _ rfl rfl
  · rintro fnd S1 ⟨rfl, -, h2⟩
    simp only [List.length_nil, Nat.add_zero] at h2
    simp only [List.nil_append]
    refine ⟨_, rfl, ?_⟩
    fail "wgx"
    with_reducible refine W_cut (fun e S' => ∃ (fnd : List (Option Nat)) (S2 : Store), S' = S2 ++ [.lst (fnd.map oD)] ∧ Bx S1 k S2 ∧ fnd.length ≤ 31 ∧ e = [some (rf k), some (rf j), some (nD place), some (.list (nexts.map oD)), some (rf (S1.length + 0)), none, none, none]) ?_ ?_
    · with_reducible refine W_ifs ?_
      with_reducible refine R_and ?_
      fail "wgx"
      refine R_lenL rfl (c := 0) rfl ?_
      fail "wgx"
      refine ⟨_, rfl, fun k1 => ?_, fun _ => ⟨_, rfl, fun k => absurd k (by simp), fun _ => ?_⟩⟩
      · have hne : fnd ≠ [] := by
          intro q
          subst q
          simp at k1
        fail "wgx"
        refine R_drw (take_d (n + 1) k (m := 3) (by omega) (by omega)) H hS rfl ?_
        rintro d S2 ⟨i, rfl, hi⟩ H2
        fail "wgx"
        refine ⟨_, rfl, fun _ => ?_, fun _ => ?_⟩
        · fail "wgx"
          have hl2 := H2.len
          refine ⟨by rw [lst_loc hl2 (c := 0) rfl]; rfl, ?_⟩
          fail "wgx"
          have hd := pickL_d (n + 0) k (S1.length + 0) (f := oD) hfk hne (by omega) gnd_oD (fun _ => rfl)
          have hC2 : atL (S2 ++ [.lst (fnd.map oD)]) (S1.length + 0) = some (fnd.map oD) := by rw [atL_loc hl2]; rfl
          have hY : lsts [.lst (fnd.map oD)] = true := rfl
          with_reducible refine R_drwC hd H2 hS hY hC2 ?_
          rintro d S3 ⟨a, ha, rfl⟩ H3
          fail "wgx"
          refine R_removeO H3.len (c := 0) rfl ha ?_
          fail "wgx"
          refine ⟨fnd.erase a, S3, ?_, H3, ?_, rfl⟩
          · simp [setL]
          · rw [List.length_erase_of_mem ha]; omega
        · fail "wgx"
          exact ⟨fnd, S2, rfl, H2, h2, rfl⟩
      · fail "wgx"
        exact ⟨fnd, S1, rfl, H, h2, rfl⟩
    · rintro e S' ⟨fnd, S2, rfl, H2, h2, rfl⟩
      have hl2 := H2.len
      fail "wgx"
      with_reducible refine R_compP nD (fun q => decide (spots.getD q 0 ≠ place) && !decide (some q ∈ fnd)) nD ?_
      fail "wgx"
      refine R_lenMap (f := nD) (hspot _ H2) ?_
      fail "wgx"
      refine ⟨List.range spots.length, none, rng1_n (by omega) _, by simp; omega, rfl, fun q hq => ⟨_, rfl, ?_, fun _ => ?_⟩, ?_⟩
      · have hq2 := List.mem_range.mp hq
        fail "wgx"
        with_reducible refine R_and ?_
        fail "wgx"
        refine R_spot (i := q) (hspot _ H2) hq2 ?_
        fail "wgx"
        refine ⟨_, rfl, fun k1 => ?_, fun k1 => ⟨_, rfl, rfl, by rw [k1]; rfl⟩⟩
        fail "wgx"
        refine R_notinO (q := some q) (X' := fnd) (seq_loc hl2 (c := 0) rfl) ?_
        exact ⟨_, rfl, rfl, by rw [k1]; rfl⟩
      · fail "wgx"
        exact ⟨rfl, rfl⟩
      · generalize hot : (List.range spots.length).filter (fun q => decide (spots.getD q 0 ≠ place) && !decide (some q ∈ fnd)) = others
        have hol : others.length ≤ 32 := by
          rw [← hot]
          refine Nat.le_trans (List.length_filter_le _ _) ?_
          simp; omega
        refine ⟨_, rfl, ?_⟩
        fail "wgx"
        with_reducible refine W_cut (fun e S' => ∃ (fnd : List (Option Nat)) (S2 : Store), S' = S2 ++ [.lst (fnd.map oD)] ∧ Bx S1 k S2 ∧ fnd.length ≤ 32 ∧ e = [some (rf k), some (rf j), some (nD place), some (.list (nexts.map oD)), some (rf (S1.length + 0)), none, some (.list (others.map nD)), none]) ?_ ?_
        · with_reducible refine W_ifs ?_
          with_reducible refine R_and ?_
          fail "wgx"
          refine R_neNilF nD_pl ?_
          refine ⟨_, rfl, fun k1 => ?_, fun _ => ⟨_, rfl, fun k => absurd k (by simp), fun _ => ?_⟩⟩
          · have hne : others ≠ [] := by simpa using k1
            fail "wgx"
            refine R_drw (take_d (n + 1) k (m := 3) (by omega) (by omega)) H2 hS rfl ?_
            rintro d S3 ⟨i, rfl, hi⟩ H3
            fail "wgx"
            refine ⟨_, rfl, fun _ => ?_, fun _ => ?_⟩
            · fail "wgx"
              refine ⟨by rw [lst_loc H3.len (c := 0) rfl]; rfl, ?_⟩
              fail "wgx"
              refine R_drw (pick_d (n + 0) k hne (by omega) gnd_nD (fun _ => rfl) fun _ => rfl) H3 hS rfl ?_
              rintro d S4 ⟨a, ha, rfl⟩ H4
              fail "wgx"
              refine R_append H4.len (c := 0) rfl (by rw [List.length_map]; omega) ?_
              fail "wgx"
              refine ⟨fnd ++ [some a], S4, ?_, H4, by simp; omega, rfl⟩
              simp [setL, nI]
            · fail "wgx"
              exact ⟨fnd, S3, rfl, H3, by omega, rfl⟩
          · fail "wgx"
            exact ⟨fnd, S2, rfl, H2, by omega, rfl⟩
        · rintro e S' ⟨fnd, S2, rfl, H2, h2, rfl⟩
          have hl2 := H2.len
          fail "wgx"
          with_reducible refine W_cut (fun e S' => ∃ (fnd : List (Option Nat)) (S2 : Store) (x5 x6 x7 : Option D), S' = S2 ++ [.lst (fnd.map oD)] ∧ Bx S1 k S2 ∧ fnd.length ≤ 33 ∧ e = [some (rf k), some (rf j), some (nD place), some (.list (nexts.map oD)), some (rf (S1.length + 0)), x5, x6, x7]) ?_ ?_
          · have add : ∀ S3 : Store, Bx S1 k S3 → W (DL.execs (DL.run tab (n + 2)) [.exp (.mth .append (.v 4) [(.neg (.c (.int 1)))])] [some (rf k), some (rf j), some (nD place), some (.list (nexts.map oD)), some (rf (S1.length + 0)), none, some (.list (others.map nD)), none] (S3 ++ [.lst (fnd.map oD)])) ⟨fun e S' => ∃ (fnd : List (Option Nat)) (S2 : Store) (x5 x6 x7 : Option D), S' = S2 ++ [.lst (fnd.map oD)] ∧ Bx S1 k S2 ∧ fnd.length ≤ 33 ∧ e = [some (rf k), some (rf j), some (nD place), some (.list (nexts.map oD)), some (rf (S1.length + 0)), x5, x6, x7], RtB S1 k (rowP 40), fun _ _ => False, fun _ _ => False, nX⟩ := fun S3 H3 => by
              fail "wgx"
              refine ⟨by rw [lst_loc H3.len (c := 0) rfl]; rfl, ?_⟩
              fail "wgx"
              refine ⟨_, rfl, ?_⟩
              fail "wgx"
              refine R_append H3.len (c := 0) rfl (by rw [List.length_map]; omega) ?_
              fail "wgx"
              refine ⟨fnd ++ [none], S3, _, _, _, ?_, H3, by simp; omega, rfl⟩
              simp [setL, nI]
            with_reducible refine W_ifs ?_
            with_reducible refine R_or ?_
            fail "wgx"
            refine R_eqNil (res_at (by rw [atL_loc hl2]; rfl)) (pl_map oD_pl) ?_
            refine ⟨_, rfl, fun _ => ⟨true, rfl, fun _ => add S2 H2, fun k => absurd k (by simp)⟩, fun _ => ?_⟩
            with_reducible refine R_and ?_
            fail "wgx"
            refine ⟨_, rfl, ?_⟩
            fail "wgx"
            refine R_notinO (q := none) (X' := fnd) (seq_loc hl2 (c := 0) rfl) ?_
            refine ⟨_, rfl, fun _ => ?_, fun _ => ⟨false, rfl, fun k => absurd k (by simp), fun _ => ?_⟩⟩
            · fail "wgx"
              refine R_drw (take_d (n + 1) k (m := 5) (by omega) (by omega)) H2 hS rfl ?_
              rintro d S3 ⟨i, rfl, hi⟩ H3
              fail "wgx"
              refine ⟨_, rfl, fun _ => add S3 H3, fun _ => ?_⟩
              fail "wgx"
              exact ⟨fnd, S3, _, _, _, rfl, H3, by omega, rfl⟩
            · fail "wgx"
              exact ⟨fnd, S2, _, _, _, rfl, H2, by omega, rfl⟩
          · rintro e S' ⟨fnd, S2, x5, x6, x7, rfl, H2, h2, rfl⟩
            fail "wgx"
            refine R_sortO (l := fnd) (seq_loc H2.len (c := 0) rfl) (by omega) ?_
            fail "wgx"
            refine R_tuple rfl ?_
            exact ⟨S2, _, rfl, H2, .inl ⟨rfl, gndL_map gnd_oD _, osort fnd, rfl, by rw [osort_len]; omega⟩⟩
end Lw

set_option linter.all false
set_option maxRecDepth 100000
/-! Lw.K: new books. -/
namespace Lw
open PySem DL L2 Hs
def oSD : Option Stg → D
  | none => .none
  | some s => stgD s
theorem fill {os : List (Option Stg)} {ord : List Nat} {m : Nat} (hl : os.length = m) (hp : ord.Perm (List.range m)) (h : ∀ y, y < m → ∃ s, os.getD (ord.getD y 0) none = some s) : ∃ b : List Stg, os.map oSD = b.map stgD ∧ b.length = m ∧ ∀ i, i < m → os.getD i none = some (bst b i) := by
  have all : ∀ i, i < m → ∃ s, os.getD i none = some s := fun i hi => by
    have : i ∈ ord := hp.mem_iff.mpr (List.mem_range.mpr hi)
    obtain ⟨y, hy, e⟩ := List.mem_iff_getElem.mp this
    have hlo : ord.length = m := by rw [hp.length_eq, List.length_range]
    have := h y (by omega)
    rwa [show ord.getD y 0 = i by rw [List.getD_eq_getElem?_getD, List.getElem?_eq_getElem hy]; exact e] at this
  refine ⟨os.map fun o => o.getD (0, []), ?_, by rw [List.length_map, hl], fun i hi => ?_⟩
  · rw [List.map_map]
    refine List.ext_getElem? fun i => ?_
    rw [List.getElem?_map, List.getElem?_map]
    by_cases hi : i < m
    · obtain ⟨s, hs⟩ := all i hi
      have e : os[i]? = some (some s) := by rw [getD_get (d := none) (by omega), hs]
      rw [e]; rfl
    · rw [List.getElem?_eq_none (by omega)]; rfl
  · obtain ⟨s, hs⟩ := all i hi
    have e : os[i]? = some (some s) := by rw [getD_get (d := none) (by omega), hs]
    rw [hs]
    unfold bst
    rw [List.getD_eq_getElem?_getD, List.getElem?_map, e]; rfl
theorem ord_lt {ord : List Nat} {m y : Nat} (hp : ord.Perm (List.range m)) (hy : y < m) : ord.getD y 0 < m ∧ y < ord.length := by
  have hlo : ord.length = m := by rw [hp.length_eq, List.length_range]
  refine ⟨?_, by omega⟩
  have h1 : y < ord.length := by omega
  have : ord.getD y 0 ∈ ord := by
    rw [List.getD_eq_getElem?_getD, List.getElem?_eq_getElem h1]
    exact List.getElem_mem _
  exact List.mem_range.mp (hp.mem_iff.mp this)
theorem ord_inj {ord : List Nat} {m x y : Nat} (hp : ord.Perm (List.range m)) (hx : x < m) (hy : y < m) (e : ord.getD x 0 = ord.getD y 0) : x = y := by
  have hn : ord.Nodup := hp.nodup_iff.mpr List.nodup_range
  have h1 := (ord_lt hp hx).2
  have h2 := (ord_lt hp hy).2
  rw [List.getD_eq_getElem?_getD, List.getD_eq_getElem?_getD, List.getElem?_eq_getElem h1, List.getElem?_eq_getElem h2] at e
  exact (List.getElem_inj hn).mp e
theorem getD_set {α : Type} {l : List α} {i j : Nat} {v d : α} (hi : i < l.length) : (l.set i v).getD j d = if i = j then v else l.getD j d := by
  rw [List.getD_eq_getElem?_getD, List.getElem?_set]
  by_cases c : i = j
  · rw [if_pos c, if_pos c, if_pos hi]; rfl
  · rw [if_neg c, if_neg c, List.getD_eq_getElem?_getD]
def nbP (h : H) : D → Prop := fun d => ∃ (b : List Stg) (t : List (Option Nat)), d = .tuple [bookD b, turD t] ∧ t.length = h.stages.length ∧ Bt b t
/-- what next is meant in a book of another order -/
def omap (ord : List Nat) (a : Option Nat) : Option Nat := a.map fun t => ord.getD t 0
theorem new_d (n k : Nat) {h : H} (V : Wf h) (loose : Bool) : Drw k (DL.run tab (n + 4) 19 [rf k, hD h, .bool loose]) (nbP h) := by
  refine Drw.of (fun S => r__law_new_book (n + 3) _ _ _ S) fun S H hS => ?_
  have hC := V.st
  have hC0 := V.c0
  have hP0 := V.p0
  have hP := V.pl
  have hk : k < S.length := H.1
  unfold b__law_new_book
  fail "wgx"
  refine ⟨_, rfl, ?_⟩
  fail "wgx"
  with_reducible refine R_cut (fun d S' => ∃ (S1 : Store) (m : Nat), S' = S1 ++ [] ∧ Bx S k S1 ∧ d = nD m ∧ m ≤ 1) ?_ ?_
  · with_reducible refine R_ite ?_
    fail "wgx"
    refine ⟨_, rfl, fun _ => ?_, fun _ => ?_⟩
    · fail "wgx"
      refine R_drw (take_d (n + 2) k (m := 2) (by omega) (by omega)) H hS rfl ?_
      rintro d S1 ⟨i, rfl, hi⟩ H1
      exact ⟨S1, i, rfl, H1, rfl, by omega⟩
    · fail "wgx"
      exact ⟨S, 0, rfl, H, rfl, by omega⟩
  rintro d S' ⟨S1, m, rfl, H1, rfl, hm⟩
  refine R_addN ?_
  obtain ⟨many, hmany⟩ : ∃ q, q = h.stages.length + m := ⟨_, rfl⟩
  rw [← hmany]
  refine ⟨_, rfl, ?_⟩
  fail "wgx"
  refine R_lrng (by omega) ?_
  fail "wgx"
  refine R_drw (shuf_d (n + 1) k (X := List.range many) (by simp; omega)) H1 hS rfl ?_
  rintro d S2 ⟨ord, rfl, hord⟩ H2
  have hol : ord.length = many := by rw [hord.length_eq, List.length_range]
  refine ⟨_, rfl, ?_⟩
  fail "wgx"
  with_reducible refine R_bnd1 ?_
  fail "wgx"
  refine ⟨_, rfl, ?_⟩
  refine R_slcT (f := nD) (l := ord) (p := h.stages.length) (by omega) (by omega) ?_
  fail "wgx"
  with_reducible refine R_compT (c := 0) (L := S.length) nD nD (fun l acc S1' => S1' = S2 ∧ acc.length + l.length = many) H2.len rfl (by rintro l acc S1' ⟨rfl, -⟩; exact H2.len) ?_
  fail "wgx"
  refine ⟨rfl, List.range many, none, rng1_n (by omega) _, ⟨rfl, by simp⟩, fun _ _ _ _ => rfl, ?_, ?_⟩
  · rintro y r acc S1' ⟨rfl, h2⟩
    simp only [List.length_cons] at h2
    refine ⟨by omega, _, rfl, R_all0 ⟨fun _ => ?_, fun k => absurd k (by simp)⟩⟩
    fail "wgx"
    exact ⟨S1', rfl, 0, rfl, rfl, by simp; omega⟩
  rintro spots0 S3 ⟨rfl, hsp0⟩
  simp only [List.length_nil, Nat.add_zero] at hsp0
  simp only [List.nil_append]
  fail "wgx"
  refine ⟨by simp, _, rfl, ?_⟩
  fail "wgx"
  -- the places of the stages
  with_reducible refine W_cut (fun e S' => ∃ (spots : List Nat) (S1 : Store) (x8 : Option D), S' = S1 ++ [.lst (spots.map nD)] ∧ Bx S k S1 ∧ spots.length = many ∧ e = [some (rf k), some (hD h), some (.bool loose), some (bookD h.stages), some (nD many), some (.list (ord.map nD)), some (.list ((ord.take h.stages.length).map nD)), some (rf (S.length + 0)), x8, none, none, none, none]) ?_ ?_
  · with_reducible refine W_frl (α := Nat) nD (fun l e S' => ∃ (spots : List Nat) (S1 : Store) (x8 : Option D), S' = S1 ++ [.lst (spots.map nD)] ∧ Bx S k S1 ∧ spots.length = many ∧ (∀ y ∈ l, y < many) ∧ e = [some (rf k), some (hD h), some (.bool loose), some (bookD h.stages), some (nD many), some (.list (ord.map nD)), some (.list ((ord.take h.stages.length).map nD)), some (rf (S.length + 0)), x8, none, none, none, none]) ?_
    fail "wgx"
    refine ⟨List.range many, none, rng1_n (by omega) _, ⟨spots0, S3, none, rfl, H2, hsp0, fun y hy => List.mem_range.mp hy, rfl⟩, fun _ _ _ _ => rfl, ?_, ?_⟩
    · rintro y r env S4 ⟨spots, S5, x8, rfl, H5, hsl, hy, rfl⟩
      have hym := hy y List.mem_cons_self
      have hr : ∀ z ∈ r, z < many := fun z hz => hy z (List.mem_cons_of_mem _ hz)
      refine ⟨_, rfl, ?_⟩
      fail "wgx"
      with_reducible refine R_cut (fun d S' => ∃ (S6 : Store) (v : Nat), S' = S6 ++ [.lst (spots.map nD)] ∧ Bx S k S6 ∧ d = nD v) ?_ ?_
      · with_reducible refine R_ite ?_
        fail "wgx"
        refine ⟨_, rfl, fun k1 => ?_, fun _ => ?_⟩
        · have k2 : y < h.stages.length := by simpa using k1
          fail "wgx"
          exact ⟨S5, _, rfl, H5, rfl⟩
        · fail "wgx"
          refine R_drw (take_d (n + 2) k (m := h.seats.length) hP0 (by omega)) H5 hS rfl ?_
          rintro d S6 ⟨i, rfl, hi⟩ H6
          exact ⟨S6, i, rfl, H6, rfl⟩
      · rintro d S' ⟨S6, v, rfl, H6, rfl⟩
        fail "wgx"
        refine R_spot rfl (by omega) ?_
        have ho := (ord_lt hord hym).1
        refine ⟨_, set_loc (j := 0) H6.len (c := 0) rfl (by rw [List.length_map]; omega), ?_⟩
        fail "wgx"
        refine ⟨spots.set (ord.getD y 0) v, S6, _, ?_, H6, by rw [List.length_set]; exact hsl, hr, rfl⟩
        simp [setL, List.map_set]
    · rintro env S4 ⟨spots, S5, x8, rfl, H5, hsl, hy, rfl⟩
      exact ⟨spots, S5, x8, rfl, H5, hsl, rfl⟩
  rintro e S' ⟨spots1, S4, x8, rfl, H4, hsl1, rfl⟩
  fail "wgx"
  with_reducible refine W_cut (fun e S' => ∃ (spots : List Nat) (S1 : Store) (x8 : Option D), S' = S1 ++ [.lst (spots.map nD)] ∧ Bx S k S1 ∧ spots.length = many ∧ e = [some (rf k), some (hD h), some (.bool loose), some (bookD h.stages), some (nD many), some (.list (ord.map nD)), some (.list ((ord.take h.stages.length).map nD)), some (rf (S.length + 0)), x8, none, none, none, none]) ?_ ?_
  · with_reducible refine W_ifs ?_
    with_reducible refine R_and ?_
    fail "wgx"
    refine ⟨_, rfl, fun _ => ?_, fun _ => ⟨_, rfl, fun k => absurd k (by simp), fun _ => ?_⟩⟩
    · fail "wgx"
      refine R_drw (take_d (n + 2) k (m := 4) (by omega) (by omega)) H4 hS rfl ?_
      rintro d S5 ⟨i, rfl, hi⟩ H5
      fail "wgx"
      refine ⟨_, rfl, fun _ => ?_, fun _ => ?_⟩
      · fail "wgx"
        refine R_drw (take_d (n + 2) k (m := h.seats.length) hP0 (by omega)) H5 hS rfl ?_
        rintro d S6 ⟨v, rfl, hv⟩ H6
        fail "wgx"
        refine R_drw (take_d (n + 2) k (m := many) (by omega) (by omega)) H6 hS rfl ?_
        rintro d S7 ⟨j, rfl, hj⟩ H7
        refine ⟨_, set_loc (j := 0) H7.len (c := 0) rfl (by rw [List.length_map]; omega), ?_⟩
        fail "wgx"
        refine ⟨spots1.set j v, S7, _, ?_, H7, by rw [List.length_set]; exact hsl1, rfl⟩
        simp [setL, List.map_set]
      · fail "wgx"
        exact ⟨spots1, S5, x8, rfl, H5, hsl1, rfl⟩
    · fail "wgx"
      exact ⟨spots1, S4, x8, rfl, H4, hsl1, rfl⟩
  rintro e S' ⟨spots, S5, x8, rfl, H5, hsl, rfl⟩
  fail "wgx"
  with_reducible refine R_compT (c := 1) (L := S.length) nD oSD (fun l acc S1' => S1' = S5 ∧ acc.length + l.length = many) H5.len rfl (by rintro l acc S1' ⟨rfl, -⟩; exact H5.len) ?_
  fail "wgx"
  refine ⟨rfl, List.range many, none, rng1_n (by omega) _, ⟨rfl, by simp⟩, fun _ _ _ _ => rfl, ?_, ?_⟩
  · rintro y r acc S1' ⟨rfl, h2⟩
    simp only [List.length_cons] at h2
    refine ⟨by omega, _, rfl, R_all0 ⟨fun _ => ?_, fun k => absurd k (by simp)⟩⟩
    fail "wgx"
    exact ⟨S1', rfl, none, rfl, rfl, by simp; omega⟩
  rintro os0 S6 ⟨rfl, hos0⟩
  simp only [List.length_nil, Nat.add_zero] at hos0
  simp only [List.singleton_append]
  refine ⟨_, rfl, ?_⟩
  fail "wgx"
  -- the stages
  with_reducible refine W_cut (fun e S' => ∃ (os : List (Option Stg)) (S1 : Store) (x8 x10 x11 : Option D), S' = S1 ++ [.lst (spots.map nD), .lst (os.map oSD)] ∧ Bx S k S1 ∧ os.length = many ∧ (∀ y, y < many → ∃ s, os.getD (ord.getD y 0) none = some s) ∧ e = [some (rf k), some (hD h), some (.bool loose), some (bookD h.stages), some (nD many), some (.list (ord.map nD)), some (.list ((ord.take h.stages.length).map nD)), some (rf (S.length + 0)), x8, some (rf (S.length + 1)), x10, x11, none]) ?_ ?_
  · with_reducible refine W_frl (α := Nat) nD (fun l e S' => ∃ (os : List (Option Stg)) (S1 : Store) (x8 x10 x11 : Option D) (i : Nat), S' = S1 ++ [.lst (spots.map nD), .lst (os.map oSD)] ∧ Bx S k S1 ∧ os.length = many ∧ l = (List.range many).drop i ∧ i ≤ many ∧ (∀ y, y < i → ∃ s, os.getD (ord.getD y 0) none = some s) ∧ e = [some (rf k), some (hD h), some (.bool loose), some (bookD h.stages), some (nD many), some (.list (ord.map nD)), some (.list ((ord.take h.stages.length).map nD)), some (rf (S.length + 0)), x8, some (rf (S.length + 1)), x10, x11, none]) ?_
    fail "wgx"
    refine ⟨List.range many, none, rng1_n (by omega) _, ⟨os0, S6, x8, none, none, 0, rfl, H5, hos0, rfl, Nat.zero_le _, fun y hy => absurd hy (Nat.not_lt_zero _), rfl⟩, fun _ _ _ _ => rfl, ?_, ?_⟩
    · rintro y r env S7 ⟨os, S8, x8, x10, x11, i, rfl, H8, hosl, hdr, hi, hfil, rfl⟩
      obtain ⟨rfl, hym, hr⟩ := rng_drop hdr
      have hl8 := H8.len
      have ho := (ord_lt hord hym).1
      refine ⟨_, rfl, ?_⟩
      fail "wgx"
      with_reducible refine R_cut (fun d S' => S' = S8 ++ [.lst (spots.map nD), .lst (os.map oSD)] ∧ ∃ nx : List (Option Nat), d = .list (nx.map oD) ∧ nx.length ≤ 31 ∧ ∀ t, some t ∈ nx → t < many) ?_ ?_
      · with_reducible refine R_ite ?_
        fail "wgx"
        refine ⟨_, rfl, fun k1 => ?_, fun _ => ?_⟩
        · have k2 : y < h.stages.length := by simpa using k1
          have hnx := V.nx y k2
          have hnz := V.nz y k2
          fail "wgx"
          with_reducible refine R_compM oD (fun a => oD (omap ord a)) ?_
          fail "wgx"
          refine ⟨nxs h y, none, val_n rfl rfl, by omega, rfl, fun a ha => ⟨_, rfl, ?_⟩, ?_⟩
          · with_reducible refine R_ite ?_
            fail "wgx"
            cases a with
            | none =>
              refine ⟨_, rfl, fun k => absurd k (by simp [nI]), fun _ => ?_⟩
              fail "wgx"
              exact ⟨rfl, rfl⟩
            | some t =>
              have ht := hnx t ha
              refine ⟨_, rfl, fun _ => ?_, fun k => absurd k (by simp [nI])⟩
              fail "wgx"
              refine R_spot (i := t) (l := ord.take h.stages.length) rfl (by rw [List.length_take]; omega) ?_
              refine ⟨?_, rfl⟩
              have e1 : (ord.take h.stages.length).getD t 0 = ord.getD t 0 := by
                rw [List.getD_eq_getElem?_getD, List.getD_eq_getElem?_getD, List.getElem?_take_of_lt ht]
              rw [e1]; rfl
          · refine ⟨rfl, (nxs h y).map (omap ord), by rw [List.map_map]; rfl, by rw [List.length_map]; exact hnz, fun t ht => ?_⟩
            obtain ⟨a, ha, e⟩ := List.mem_map.mp ht
            cases a with
            | none => cases e
            | some u =>
              simp only [omap, Option.map_some, Option.some.injEq] at e
              rw [← e]
              exact (ord_lt hord (by have := hnx u ha; omega)).1
        · fail "wgx"
          refine ⟨_, rfl, by simp, rfl, [none], rfl, by simp, by simp⟩
      · rintro d S' ⟨rfl, nx, rfl, hn1, hn2⟩
        refine ⟨_, rfl, ?_⟩
        fail "wgx"
        refine R_spot rfl (by omega) ?_
        refine R_spot (seq_loc hl8 (c := 0) rfl) (by omega) ?_
        fail "wgx"
        refine R_spot rfl (by omega) ?_
        refine R_spot (seq_loc hl8 (c := 0) rfl) (by omega) ?_
        fail "wgx"
        have hd := near_d (n + 0) k (S.length + 0) (spots := spots) (place := spots.getD (ord.getD y 0) 0) (nexts := nx) (by omega) (by omega) hn1 (by rw [hsl]; exact hn2)
        have hC2 : atL (S8 ++ [.lst (spots.map nD), .lst (os.map oSD)]) (S.length + 0) = some (spots.map nD) := by rw [atL_loc hl8]; rfl
        have hY : lsts [.lst (spots.map nD), .lst (os.map oSD)] = true := rfl
        with_reducible refine R_drwC hd H8 hS hY hC2 ?_
        rintro d S9 ⟨l2, rfl, hl2⟩ H9
        fail "wgx"
        refine ⟨by simp, ?_⟩
        fail "wgx"
        refine R_spot rfl (by omega) ?_
        refine ⟨_, set_loc (j := 0) H9.len (c := 1) rfl (by rw [List.length_map]; omega), ?_⟩
        fail "wgx"
        refine ⟨os.set (ord.getD y 0) (some (spots.getD (ord.getD y 0) 0, l2)), S9, _, _, _, y + 1, ?_, H9, by rw [List.length_set]; exact hosl, hr, by omega, fun z hz => ?_, rfl⟩
        · simp [setL, List.map_set]
          rfl
        · rw [getD_set (by omega)]
          split
          · exact ⟨_, rfl⟩
          · rename_i c
            have : z ≠ y := fun q => c (by rw [q])
            exact hfil z (by omega)
    · rintro env S7 ⟨os, S8, x8, x10, x11, i, rfl, H8, hosl, hdr, hi, hfil, rfl⟩
      have : i = many := by
        have := congrArg List.length hdr
        simp at this
        omega
      subst this
      exact ⟨os, S8, x8, x10, x11, rfl, H8, hosl, hfil, rfl⟩
  rintro e S' ⟨os, S7, y8, x10, x11, rfl, H7, hosl, hfil, rfl⟩
  fail "wgx"
  with_reducible refine R_compT (c := 2) (L := S.length) nD tD (fun l acc S1' => Bx S k S1' ∧ acc.length + l.length = h.stages.length ∧ (∀ x ∈ l, x < many) ∧ ∀ x, some x ∈ acc → x < many) H7.len rfl (by rintro l acc S1' ⟨hb, -⟩; exact hb.len) ?_
  fail "wgx"
  refine ⟨rfl, ord.take h.stages.length, none, val_n rfl rfl, ⟨H7, by simp; omega, fun x hx => ?_, fun x hx => absurd hx (by simp)⟩, fun _ _ _ _ => rfl, ?_, ?_⟩
  · exact List.mem_range.mp (hord.mem_iff.mp (List.mem_of_mem_take hx))
  · rintro y r acc S1' ⟨hb, h2, h3, h4⟩
    simp only [List.length_cons] at h2
    have hy := h3 y List.mem_cons_self
    have hr : ∀ z ∈ r, z < many := fun z hz => h3 z (List.mem_cons_of_mem _ hz)
    refine ⟨by omega, _, rfl, R_all0 ⟨fun _ => ?_, fun k => absurd k (by simp)⟩⟩
    have yes : ∀ (S2 : Store), Bx S k S2 → Bx S k S2 ∧ (acc ++ [some y]).length + r.length = h.stages.length ∧ (∀ x ∈ r, x < many) ∧ ∀ x, some x ∈ acc ++ [some y] → x < many := fun S2 hb2 => ⟨hb2, by simp; omega, hr, fun x hx => by
      rcases List.mem_append.mp hx with hx | hx
      · exact h4 x hx
      · have := List.mem_singleton.mp hx
        simp only [Option.some.injEq] at this
        omega⟩
    with_reducible refine R_ite ?_
    with_reducible refine R_and ?_
    fail "wgx"
    refine ⟨_, rfl, fun _ => ?_, fun _ => ⟨_, rfl, fun k => absurd k (by simp), fun _ => ?_⟩⟩
    · fail "wgx"
      refine R_drw (take_d (n + 2) k (m := 6) (by omega) (by omega)) hb hS rfl ?_
      rintro d S2 ⟨i, rfl, hi⟩ H2'
      fail "wgx"
      refine ⟨_, rfl, fun _ => ?_, fun _ => ?_⟩
      · fail "wgx"
        refine ⟨S2, rfl, none, rfl, H2', by simp; omega, hr, fun x hx => ?_⟩
        rcases List.mem_append.mp hx with hx | hx
        · exact h4 x hx
        · simp at hx
      · fail "wgx"
        exact ⟨S2, rfl, some y, rfl, yes S2 H2'⟩
    · fail "wgx"
      exact ⟨S1', rfl, some y, rfl, yes S1' hb⟩
  rintro told0 S8 ⟨H8, ht0, -, ht1⟩
  simp only [List.length_nil, Nat.add_zero] at ht0
  simp only [List.cons_append, List.nil_append]
  refine ⟨_, rfl, ?_⟩
  fail "wgx"
  with_reducible refine W_cut (fun e S' => ∃ (told : List (Option Nat)) (S1 : Store), S' = S1 ++ [.lst (spots.map nD), .lst (os.map oSD), .lst (told.map tD)] ∧ Bx S k S1 ∧ told.length = h.stages.length ∧ (∀ x, some x ∈ told → x < many) ∧ e = [some (rf k), some (hD h), some (.bool loose), some (bookD h.stages), some (nD many), some (.list (ord.map nD)), some (.list ((ord.take h.stages.length).map nD)), some (rf (S.length + 0)), y8, some (rf (S.length + 1)), x10, x11, some (rf (S.length + 2))]) ?_ ?_
  · with_reducible refine W_ifs ?_
    with_reducible refine R_and ?_
    fail "wgx"
    refine ⟨_, rfl, fun _ => ?_, fun _ => ⟨_, rfl, fun k => absurd k (by simp), fun _ => ?_⟩⟩
    · fail "wgx"
      refine R_drw (take_d (n + 2) k (m := 4) (by omega) (by omega)) H8 hS rfl ?_
      rintro d S9 ⟨i, rfl, hi⟩ H9
      fail "wgx"
      refine ⟨_, rfl, fun _ => ?_, fun _ => ?_⟩
      · fail "wgx"
        refine R_drw (take_d (n + 2) k (m := many) (by omega) (by omega)) H9 hS rfl ?_
        rintro d S10 ⟨v, rfl, hv⟩ H10
        fail "wgx"
        refine R_lenL H10.len (c := 2) rfl ?_
        rw [List.length_map]
        fail "wgx"
        refine R_drw (take_d (n + 2) k (m := told0.length) (by omega) (by omega)) H10 hS rfl ?_
        rintro d S11 ⟨j, rfl, hj⟩ H11
        refine ⟨_, set_loc (j := 0) H11.len (c := 2) rfl (by rw [List.length_map]; exact hj), ?_⟩
        fail "wgx"
        refine ⟨told0.set j (some v), S11, ?_, H11, by rw [List.length_set]; exact ht0, fun x hx => ?_, rfl⟩
        · simp [setL, List.map_set]
          rfl
        · rcases List.mem_or_eq_of_mem_set hx with hx | hx
          · exact ht1 x hx
          · simp only [Option.some.injEq] at hx
            omega
      · fail "wgx"
        exact ⟨told0, S9, rfl, H9, ht0, ht1, rfl⟩
    · fail "wgx"
      exact ⟨told0, S8, rfl, H8, ht0, ht1, rfl⟩
  rintro e S' ⟨told, S9, rfl, H9, ht2, ht3, rfl⟩
  obtain ⟨b, hb1, hb2, -⟩ := fill hosl hord hfil
  fail "wgx"
  refine R_tupleL H9.len (c := 1) rfl ?_
  fail "wgx"
  refine R_tupleL H9.len (c := 2) rfl ?_
  fail "wgx"
  rw [hb1]
  refine ⟨by simp, S9, _, rfl, H9, .inl ⟨rfl, ?_, b, told, rfl, ht2, fun s x hx => ?_⟩⟩
  · show gndL [_, _] = true
    have := gnd_book b
    unfold bookD at this
    simp only [gndL, this, Bool.true_and, Bool.and_true]
    exact gndL_map gnd_tD told
  · rw [hb2]
    refine ht3 x ?_
    unfold tur at hx
    rw [← hx]
    have hs : s < told.length := by
      by_cases q : s < told.length
      · exact q
      · rw [List.getD_eq_getElem?_getD, List.getElem?_eq_none (by omega)] at hx; cases hx
    rw [List.getD_eq_getElem?_getD, List.getElem?_eq_getElem hs]
    exact List.getElem_mem _
end Lw

set_option linter.all false
set_option maxRecDepth 100000
/-! Lw.L: books to which every guest can be turned. -/
namespace Lw
open PySem DL L2 Hs
structure Sb (h : H) (b : List Stg) (ord : List Nat) : Prop where
  len : b.length = h.stages.length
  perm : ord.Perm (List.range h.stages.length)
  st : ∀ s, s < h.stages.length → (bst b (ord.getD s 0)).1 = plc h s ∧ ∀ a ∈ nxs h s, omap ord a ∈ (bst b (ord.getD s 0)).2
def sbP (h : H) : D → Prop := fun d => ∃ (b : List Stg) (ord : List Nat), d = .tuple [bookD b, .tuple (ord.map nD)] ∧ Sb h b ord
def okStg (h : H) (ord : List Nat) (s : Nat) (x : Stg) : Prop := x.1 = plc h s ∧ ∀ a ∈ nxs h s, omap ord a ∈ x.2
theorem same_d (n k : Nat) {h : H} (V : Wf h) : Drw k (DL.run tab (n + 3) 20 [rf k, hD h]) (sbP h) := by
  refine Drw.of (fun S => r__law_same_book (n + 2) _ _ S) fun S H hS => ?_
  have hC := V.st
  have hC0 := V.c0
  have hP := V.pl
  have hk : k < S.length := H.1
  unfold b__law_same_book
  fail "wgx"
  refine ⟨_, rfl, ?_⟩
  fail "wgx"
  refine R_lrng (by omega) ?_
  fail "wgx"
  refine R_drw (shuf_d (n + 0) k (X := List.range h.stages.length) (by simp; omega)) H hS rfl ?_
  rintro d S2 ⟨ord, rfl, hord⟩ H2
  have hol : ord.length = h.stages.length := by rw [hord.length_eq, List.length_range]
  refine ⟨_, rfl, ?_⟩
  fail "wgx"
  with_reducible refine R_compT (c := 0) (L := S.length) stgD oSD (fun l acc S1' => S1' = S2 ∧ acc.length + l.length = h.stages.length) H2.len rfl (by rintro l acc S1' ⟨rfl, -⟩; exact H2.len) ?_
  fail "wgx"
  refine ⟨rfl, h.stages, none, val_n rfl rfl, ⟨rfl, by simp⟩, fun _ _ _ _ => rfl, ?_, ?_⟩
  · rintro y r acc S1' ⟨rfl, h2⟩
    simp only [List.length_cons] at h2
    refine ⟨by omega, _, rfl, R_all0 ⟨fun _ => ?_, fun k => absurd k (by simp)⟩⟩
    fail "wgx"
    exact ⟨S1', rfl, none, rfl, rfl, by simp; omega⟩
  rintro os0 S3 ⟨rfl, hos0⟩
  simp only [List.length_nil, Nat.add_zero] at hos0
  simp only [List.nil_append]
  refine ⟨_, rfl, ?_⟩
  fail "wgx"
  with_reducible refine W_cut (fun e S' => ∃ (os : List (Option Stg)) (S1 : Store) (x5 x6 x7 x8 x9 x10 : Option D), S' = S1 ++ [.lst (os.map oSD)] ∧ Bx S k S1 ∧ os.length = h.stages.length ∧ (∀ y, y < h.stages.length → ∃ s, os.getD (ord.getD y 0) none = some s ∧ okStg h ord y s) ∧ e = [some (rf k), some (hD h), some (bookD h.stages), some (.list (ord.map nD)), some (rf (S.length + 0)), x5, x6, x7, x8, x9, x10]) ?_ ?_
  · with_reducible refine W_frl (α := Stg × Nat) (enD stgD) (fun l e S' => ∃ (os : List (Option Stg)) (S1 : Store) (x5 x6 x7 x8 x9 x10 : Option D) (i : Nat), S' = S1 ++ [.lst (os.map oSD)] ∧ Bx S k S1 ∧ os.length = h.stages.length ∧ l = h.stages.zipIdx.drop i ∧ i ≤ h.stages.length ∧ (∀ y, y < i → ∃ s, os.getD (ord.getD y 0) none = some s ∧ okStg h ord y s) ∧ e = [some (rf k), some (hD h), some (bookD h.stages), some (.list (ord.map nD)), some (rf (S.length + 0)), x5, x6, x7, x8, x9, x10]) ?_
    fail "wgx"
    refine ⟨h.stages.zipIdx, none, enum_n rfl rfl, ⟨os0, S3, none, none, none, none, none, none, 0, rfl, H2, hos0, rfl, Nat.zero_le _, fun y hy => absurd hy (Nat.not_lt_zero _), rfl⟩, fun _ _ _ _ => rfl, ?_, ?_⟩
    · rintro ⟨sg, y⟩ r env S4 ⟨os, S5, x5, x6, x7, x8, x9, x10, i, rfl, H5, hosl, hl, hi, hfil, rfl⟩
      obtain ⟨e1, e2, e3⟩ := zip_some hl.symm
      simp only at e1 e2
      subst e1
      have hy : y < h.stages.length := (List.getElem?_eq_some_iff.mp e2).1
      have hsg : stg h y = sg := by
        have := get_stg hy
        rw [e2] at this
        exact (Option.some.inj this).symm
      have ho := (ord_lt hord hy).1
      have hnx : ∀ t, some t ∈ sg.2 → t < h.stages.length := by rw [← hsg]; exact V.nx y hy
      have hnz : sg.2.length ≤ 31 := by rw [← hsg]; exact V.nz y hy
      refine ⟨_, rfl, ?_⟩
      fail "wgx"
      with_reducible refine R_compM oD (fun a => oD (omap ord a)) ?_
      fail "wgx"
      refine ⟨sg.2, none, val_n rfl rfl, by omega, rfl, fun a ha => ⟨_, rfl, ?_⟩, ?_⟩
      · with_reducible refine R_ite ?_
        fail "wgx"
        cases a with
        | none =>
          refine ⟨_, rfl, fun k => absurd k (by simp [nI]), fun _ => ?_⟩
          fail "wgx"
          exact ⟨rfl, rfl⟩
        | some t =>
          have ht := hnx t ha
          refine ⟨_, rfl, fun _ => ?_, fun k => absurd k (by simp [nI])⟩
          fail "wgx"
          refine R_spot (i := t) (l := ord) rfl (by omega) ?_
          exact ⟨rfl, rfl⟩
      · have em : sg.2.map (fun a => oD (omap ord a)) = (sg.2.map (omap ord)).map oD := by rw [List.map_map]; rfl
        rw [em]
        refine ⟨_, rfl, ?_⟩
        fail "wgx"
        with_reducible refine R_compI nD nD (fun l acc S' => ∃ S1, S' = S1 ++ [.lst (os.map oSD)] ∧ Bx S k S1 ∧ (∀ x ∈ l, x < h.stages.length) ∧ acc.length + l.length ≤ h.stages.length) ?_
        fail "wgx"
        refine ⟨List.range h.stages.length, none, rng1_n (by omega) _, ⟨S5, rfl, H5, fun x hx => List.mem_range.mp hx, by simp⟩, fun _ _ _ _ => rfl, ?_, ?_⟩
        · rintro o r2 acc S6 ⟨S7, rfl, H7, h1, h2⟩
          have hoC := h1 o List.mem_cons_self
          have h1' : ∀ z ∈ r2, z < h.stages.length := fun z hz => h1 z (List.mem_cons_of_mem _ hz)
          simp only [List.length_cons] at h2
          refine ⟨_, rfl, ?_⟩
          fail "wgx"
          with_reducible refine R_and ?_
          fail "wgx"
          refine ⟨_, rfl, fun _ => ?_, fun _ => ⟨_, rfl, fun k => absurd k (by simp), fun _ => ⟨S7, rfl, H7, h1', by omega⟩⟩⟩
          fail "wgx"
          refine R_drw (take_d (n + 1) k (m := 4) (by omega) (by omega)) H7 hS rfl ?_
          rintro d S8 ⟨i2, rfl, hi2⟩ H8
          fail "wgx"
          refine ⟨_, rfl, fun _ => ?_, fun _ => ⟨S8, rfl, H8, h1', by omega⟩⟩
          fail "wgx"
          refine R_spot rfl (by omega) ?_
          exact ⟨_, rfl, S8, rfl, H8, h1', by simp; omega⟩
        · rintro more S6 ⟨S7, rfl, H7, -, h2⟩
          simp only [List.length_nil, Nat.add_zero] at h2
          refine ⟨by omega, _, rfl, ?_⟩
          fail "wgx"
          refine R_addL (x := (sg.2.map (omap ord)).map oD) (y := more.map nD) rfl rfl (by simp only [List.length_map]; omega) ?_
          fail "wgx"
          with_reducible refine R_cut (fun d S' => ∃ (S1 : Store) (pre : List (Option Nat)), S' = S1 ++ [.lst (os.map oSD)] ∧ Bx S k S1 ∧ d = .list (pre.map oD) ∧ pre.length ≤ 1) ?_ ?_
          · with_reducible refine R_ite ?_
            fail "wgx"
            refine R_drw (take_d (n + 1) k (m := 4) (by omega) (by omega)) H7 hS rfl ?_
            rintro d S8 ⟨i2, rfl, hi2⟩ H8
            fail "wgx"
            refine ⟨_, rfl, fun _ => ?_, fun _ => ?_⟩
            · fail "wgx"
              exact ⟨_, rfl, by simp, S8, [none], rfl, H8, rfl, by simp⟩
            · fail "wgx"
              exact ⟨S8, [], rfl, H8, rfl, by simp⟩
          · rintro d S' ⟨S8, pre, rfl, H8, rfl, hpre⟩
            refine R_addL (x := (sg.2.map (omap ord)).map oD ++ more.map nD) (y := pre.map oD) rfl rfl (by simp only [List.length_append, List.length_map]; omega) ?_
            rw [nD_oD more, ← List.map_append, ← List.map_append]
            fail "wgx"
            refine R_sortset (l := sg.2.map (omap ord) ++ more.map some ++ pre) rfl (by simp only [List.length_append, List.length_map]; omega) ?_
            fail "wgx"
            refine R_tuple rfl ?_
            fail "wgx"
            refine ⟨by simp, ?_⟩
            fail "wgx"
            refine R_spot (i := y) rfl (by omega) ?_
            refine ⟨_, set_loc (j := 0) H8.len (c := 0) rfl (by rw [List.length_map]; omega), ?_⟩
            fail "wgx"
            refine ⟨os.set (ord.getD y 0) (some (sg.1, ous (sg.2.map (omap ord) ++ more.map some ++ pre))), S8, _, _, _, _, _, _, y + 1, ?_, H8, by rw [List.length_set]; exact hosl, e3.symm, hy, fun z hz => ?_, rfl⟩
            · simp [setL, List.map_set]
              rfl
            · rw [getD_set (by omega)]
              have hz' : z < y + 1 := hz
              have hzC : z < h.stages.length := by omega
              by_cases c : z = y
              · subst c
                rw [if_pos rfl]
                refine ⟨_, rfl, ?_, fun a ha => ?_⟩
                · show sg.1 = (stg h z).1
                  rw [hsg]
                · show omap ord a ∈ ous _
                  rw [ous_mem]
                  have ha2 : a ∈ sg.2 := by rw [← hsg]; exact ha
                  exact List.mem_append_left _ (List.mem_append_left _ (List.mem_map_of_mem ha2))
              · rw [if_neg fun q => c (ord_inj hord hzC hy q.symm)]
                exact hfil z (by omega)
    · rintro env S4 ⟨os, S5, x5, x6, x7, x8, x9, x10, i, rfl, H5, hosl, hl, hi, hfil, rfl⟩
      have : i = h.stages.length := by
        have := congrArg List.length hl
        simp at this
        omega
      subst this
      exact ⟨os, S5, x5, x6, x7, x8, x9, x10, rfl, H5, hosl, hfil, rfl⟩
  rintro e S' ⟨os, S5, x5, x6, x7, x8, x9, x10, rfl, H5, hosl, hfil, rfl⟩
  obtain ⟨b, hb1, hb2, hb3⟩ := fill hosl hord fun y hy => by
    obtain ⟨s, hs, -⟩ := hfil y hy
    exact ⟨s, hs⟩
  fail "wgx"
  refine R_tupleL H5.len (c := 0) rfl ?_
  fail "wgx"
  refine R_tuple rfl ?_
  fail "wgx"
  rw [hb1]
  refine ⟨by simp, S5, _, rfl, H5, .inl ⟨rfl, ?_, b, ord, rfl, hb2, hord, fun s hs => ?_⟩⟩
  · show gndL [_, _] = true
    have := gnd_book b
    unfold bookD at this
    simp only [gndL, this, Bool.true_and, Bool.and_true]
    exact gndL_map gnd_nD ord
  · obtain ⟨x, hx, hok⟩ := hfil s hs
    have := hb3 _ (ord_lt hord hs).1
    rw [hx] at this
    rw [← Option.some.inj this]
    exact hok
end Lw

set_option linter.all false
set_option maxRecDepth 100000
/-! Lw.M: what is stuck behind a kept book. -/
namespace Lw
open PySem DL L2 Hs
section
variable {h : H} {b : List Stg} {t : List (Option Nat)} {st : Stand}
theorem due_ok : ∀ {rs : Stand} {p : Nat}, (∀ i, i < rs.length → ∀ g ∈ at_ rs i, (trn b t (p + i) g).isSome = true) → ∃ l, due b t p rs = .inr l
  | [], p, _ => ⟨[], rfl⟩
  | r :: rs, p, hh => by
    have h0 : r.any (fun g => (trn b t p g).isNone) = false := by
      rw [List.any_eq_false]
      intro g hg
      have := hh 0 (by simp) g hg
      rw [Nat.add_zero] at this
      simp [Option.isSome_iff_ne_none.mp this]
    obtain ⟨l, e⟩ := due_ok (rs := rs) (p := p + 1) fun i hi g hg => by
      have := hh (i + 1) (by simpa using hi) g hg
      rwa [show p + (i + 1) = p + 1 + i by omega] at this
    exact ⟨_, by rw [due, if_neg (by rw [h0]; exact Bool.false_ne_true), e]⟩
theorem Sv.sw (V : Wf h) (T : Sv h st) : Sw h st := by
  have h1 := V.pl
  refine ⟨T.len, by rw [T.len]; omega, fun p hp g hg x hx => ?_, T.le, fun p hp => ?_⟩
  · obtain ⟨q1, q2, q3⟩ := T.ok p hp g hg
    exact V.nx g.1 q1 x (hx ▸ q3)
  · have := V.se p (by rw [← T.len]; exact hp)
    omega
theorem mem_at {r : List G} (hr : r ∈ st) : ∃ p, p < st.length ∧ at_ st p = r := by
  obtain ⟨p, hp, e⟩ := List.mem_iff_getElem.mp hr
  exact ⟨p, hp, by unfold at_; rw [List.getD_eq_getElem?_getD, List.getElem?_eq_getElem hp]; exact e⟩
theorem Sv.mt (V : Wf h) (T : Sv h st) (B : Bt b t) (ht : t.length = h.stages.length) : Mt h b t st := by
  have h1 := V.pl
  have sw := T.sw V
  refine ⟨⟨B, fun r hr g hg => ?_, by rw [T.len]; omega, fun r hr => ?_⟩, T.len, T.le, sw.le2⟩
  · obtain ⟨p, hp, rfl⟩ := mem_at hr
    obtain ⟨q1, q2, q3⟩ := T.ok p hp g hg
    exact ⟨by omega, fun x hx => by rw [ht]; exact sw.w p hp g hg x hx⟩
  · obtain ⟨p, hp, rfl⟩ := mem_at hr
    have := T.le p hp
    have := sw.le2 p hp
    omega
/-! the empty stand -/
def emp (h : H) : Stand := h.seats.map fun _ => []
theorem emp_at (h : H) (p : Nat) : at_ (emp h) p = [] := by
  unfold at_ emp
  rw [List.getD_eq_getElem?_getD, List.getElem?_map]
  cases h.seats[p]? <;> rfl
theorem emp_sv (h : H) : Sv h (emp h) := ⟨by simp [emp], fun p _ => by rw [emp_at]; exact Nat.zero_le _, fun p _ g hg => by rw [emp_at] at hg; cases hg⟩
theorem emp_may (V : Wf h) (B : Bt b t) (ht : t.length = h.stages.length) : mayB h b t (emp h) = true := by
  obtain ⟨l, e⟩ := due_ok (b := b) (t := t) (rs := emp h) (p := 0) fun i _ g hg => by rw [emp_at] at hg; cases hg
  obtain ⟨h1, h2⟩ := due_inr e
  unfold mayB
  rw [e]
  have hl : (emp h).length = h.seats.length := (emp_sv h).len
  have hf : fulls (bookH h b) l = [] := by
    unfold fulls
    rw [List.filter_eq_nil_iff]
    intro p hp
    have hp1 : p < h.seats.length := by rw [← hl, ← h1]; exact List.mem_range.mp hp
    have := (h2 p (by rw [hl]; exact hp1)).1
    rw [emp_at] at this
    have hse := (V.se p hp1).1
    unfold isFull
    rw [this, gsort_len]
    have : seat (bookH h b) p = seat h p := rfl
    rw [this]
    simp
    omega
  have : (Stk (bookH h b) l).length = 0 := by
    have := gf_len (h := bookH h b) (st := l) (l.length + 1) (fulls (bookH h b) l)
    rw [hf] at this
    unfold Stk
    rw [hf]
    simpa using this
  simp [List.length_eq_zero_iff.mp this]
/-! kept books -/
theorem tur_ord (ord : List Nat) {s : Nat} (hs : s < ord.length) : tur (ord.map some) s = some (ord.getD s 0) := by
  unfold tur
  rw [List.getD_eq_getElem?_getD, List.getElem?_map, List.getD_eq_getElem?_getD, List.getElem?_eq_getElem hs]
  rfl
theorem Sb.bt {ord : List Nat} (K : Sb h b ord) : Bt b (ord.map some) := by
  intro s x hx
  have hl : ord.length = h.stages.length := by rw [K.perm.length_eq, List.length_range]
  by_cases q : s < ord.length
  · rw [tur_ord ord q] at hx
    rw [K.len, ← Option.some.inj hx]
    exact (ord_lt K.perm (by omega)).1
  · unfold tur at hx
    rw [List.getD_eq_getElem?_getD, List.getElem?_eq_none (by simp; omega)] at hx
    cases hx
theorem kept_trn {ord : List Nat} (V : Wf h) (T : Sv h st) (K : Sb h b ord) {p : Nat} (hp : p < st.length) {g : G} (hg : g ∈ at_ st p) : trn b (ord.map some) p g = some (ord.getD g.1 0, omap ord g.2) := by
  have hl : ord.length = h.stages.length := by rw [K.perm.length_eq, List.length_range]
  obtain ⟨q1, q2, q3⟩ := T.ok p hp g hg
  obtain ⟨k1, k2⟩ := K.st g.1 q1
  have e2 : tla (ord.map some) g.2 = some (omap ord g.2) := by
    have sw := (T.sw V).w p hp g hg
    cases e : g.2 with
    | none => rfl
    | some x =>
      have := sw x e
      simp only [tla, tur_ord ord (show x < ord.length by omega)]
      rfl
  simp only [trn, tur_ord ord (show g.1 < ord.length by omega), e2]
  exact if_pos ⟨by rw [k1, q2], k2 _ q3⟩
theorem gf_congr {h' : H} {st' : Stand} (hh : ∀ X p, p < st.length → holds h' st' X p = holds h st X p) : ∀ (n : Nat) (X : List Nat), (∀ p ∈ X, p < st.length) → gf h' st' n X = gf h st n X
  | 0, X, _ => rfl
  | n + 1, X, hX => by
    have e : nar h' st' X = nar h st X := List.filter_congr fun p hp => hh X p (hX p hp)
    unfold gf
    rw [e, gf_congr hh n (nar h st X) fun p hp => hX p (List.mem_filter.mp hp).1]
theorem kept_stk {ord : List Nat} (V : Wf h) (T : Sv h st) (K : Sb h b ord) : ∃ l, due b (ord.map some) 0 st = .inr l ∧ Stk (bookH h b) l = Stk h st := by
  obtain ⟨l, e⟩ := due_ok (b := b) (t := ord.map some) (rs := st) (p := 0) fun i hi g hg => by
    rw [Nat.zero_add, kept_trn V T K hi hg]; rfl
  refine ⟨l, e, ?_⟩
  obtain ⟨h1, h2⟩ := due_inr e
  have hrow : ∀ p, p < st.length → (at_ l p).Perm ((at_ st p).map fun g => (ord.getD g.1 0, omap ord g.2)) := fun p hp => by
    rw [(h2 p hp).1, Nat.zero_add]
    refine (gsort_perm _).trans (List.Perm.of_eq ?_)
    have : ∀ r : List G, (∀ g ∈ r, trn b (ord.map some) p g = some (ord.getD g.1 0, omap ord g.2)) → r.filterMap (trn b (ord.map some) p) = r.map fun g => (ord.getD g.1 0, omap ord g.2) := by
      intro r
      induction r with
      | nil => intro _; rfl
      | cons g r ih =>
        intro hr
        rw [List.filterMap_cons_some (hr g List.mem_cons_self), ih fun x hx => hr x (List.mem_cons_of_mem _ hx)]
        rfl
    exact this _ fun g hg => kept_trn V T K hp hg
  have hhold : ∀ X p, p < st.length → holds (bookH h b) l X p = holds h st X p := fun X p hp => by
    rw [holds_inl, holds_inl]
    have e1 : (at_ l p).all (fun g => inl X (wnt (bookH h b) g)) = ((at_ st p).map fun g => (ord.getD g.1 0, omap ord g.2)).all (fun g => inl X (wnt (bookH h b) g)) := (hrow p hp).all_eq
    rw [e1, List.all_map]
    rw [Bool.eq_iff_iff, List.all_eq_true, List.all_eq_true]
    have hw : ∀ g ∈ at_ st p, wnt (bookH h b) (ord.getD g.1 0, omap ord g.2) = wnt h g := fun g hg => by
      have sw := (T.sw V).w p hp g hg
      unfold wnt omap
      cases e : g.2 with
      | none => rfl
      | some x =>
        show some (plc (bookH h b) (ord.getD x 0)) = some (plc h x)
        rw [show plc (bookH h b) (ord.getD x 0) = (bst b (ord.getD x 0)).1 from rfl, (K.st x (sw x e)).1]
    constructor
    · intro q g hg
      have := q g hg
      simp only [Function.comp, hw g hg] at this
      exact this
    · intro q g hg
      simp only [Function.comp, hw g hg]
      exact q g hg
  have hfull : fulls (bookH h b) l = fulls h st := by
    unfold fulls
    rw [h1]
    refine List.filter_congr fun p hp => ?_
    have hp1 := List.mem_range.mp hp
    unfold isFull
    have : (at_ l p).length = (at_ st p).length := by rw [(hrow p hp1).length_eq, List.length_map]
    rw [this]
    rfl
  unfold Stk
  rw [hfull, h1]
  exact gf_congr hhold _ _ fulls_lt
end
end Lw

set_option linter.all false
set_option maxRecDepth 100000
set_option maxHeartbeats 4000000
/-! Lw.N: the law. -/
namespace Lw
open PySem DL L2 Hs
/-! ### the typed rows -/
abbrev Ty := H × Stand × List Stg × List (Option Nat)
def tyD (q : Ty) : D := .tuple [hD q.1, standD q.2.1, bookD q.2.2.1, turD q.2.2.2]
def tyH : H := ⟨[1, 1, 1], [(0, [some 1, some 2]), (1, [some 0, some 2]), (2, [none, some 0, some 1])]⟩
def tySt : Stand := [[(0, some 1)], [(1, some 2)], []]
def tyBo : Stand := [[(0, some 1)], [(1, some 0)], []]
def tyB : List Stg := [(0, [some 1, some 2]), (1, [some 0, some 3]), (2, [none, some 0]), (0, [some 1])]
def typed : List Ty := [(tyH, tySt, tyB, [some 0, some 1, some 3]), (tyH, tyBo, [(0, [some 1]), (1, [some 2]), (2, [none])], [some 0, some 1, some 2]), (tyH, tyBo, tyB, [some 0, some 1, some 2])]
end Lw
local macro_rules | `(tactic| fail "wgt") => `(tactic| repeat (first | fail "w0" | (refine ⟨(by simp : _ ≤ 1000), ?_⟩) | (refine ⟨_, rfl, ?_⟩)))
namespace Lw
open PySem DL L2 Hs
theorem typed_eq (n : Nat) (S : Store) : DL.run tab (n + 1) 25 [] S = .ok (.list (typed.map tyD)) S := by
  refine pure_same (fun S => r__law_typed n S) ?_
  unfold b__law_typed
  fail "wgt"
  exact ⟨rfl, rfl⟩
def mtB (q : Ty) : Bool := match q with
  | (h, st, b, t) => (t.all fun o => match o with
      | none => true
      | some y => decide (y < b.length)) && (st.all fun r => decide (r.length ≤ 1000) && r.all fun g => decide (g.1 < t.length) && match g.2 with
        | none => true
        | some x => decide (x < t.length)) && decide (st.length ≤ 1000) && decide (st.length = h.seats.length) && (List.range st.length).all fun p => decide ((at_ st p).length ≤ seat h p) && decide (seat h p ≤ 1000)
theorem mtB_mt {h : H} {st : Stand} {b : List Stg} {t : List (Option Nat)} (e : mtB (h, st, b, t) = true) : Mt h b t st := by
  simp only [mtB, Bool.and_eq_true, List.all_eq_true, decide_eq_true_eq, List.mem_range] at e
  obtain ⟨⟨⟨⟨e1, e2⟩, e3⟩, e4⟩, e5⟩ := e
  refine ⟨⟨fun s x hx => ?_, fun r hr g hg => ⟨((e2 r hr).2 g hg).1, fun x hx => ?_⟩, e3, fun r hr => (e2 r hr).1⟩, e4, fun p hp => (e5 p hp).1, fun p hp => (e5 p hp).2⟩
  · unfold tur at hx
    have hs : s < t.length := by
      by_cases q : s < t.length
      · exact q
      · rw [List.getD_eq_getElem?_getD, List.getElem?_eq_none (by omega)] at hx; cases hx
    rw [List.getD_eq_getElem?_getD, List.getElem?_eq_getElem hs] at hx
    have := e1 _ (List.getElem_mem hs)
    simp only [Option.getD_some] at hx
    rw [hx] at this
    simpa using this
  · have := ((e2 r hr).2 g hg).2
    rw [hx] at this
    simpa using this
theorem typed_mt : ∀ q ∈ typed, mtB q = true := by decide
/-! ### the whole -/
theorem rng1_i {j : Int} (h0 : 0 ≤ j) (hj : j ≤ 100000) (S : Store) : itemsV .rng1 [.int j] S = .ok ((List.range j.toNat).map nD, none) S := by
  have := rng1_n (j := j.toNat) (by omega) S
  rwa [Int.toNat_of_nonneg h0] at this
theorem tt (S : Store) (n : Nat) : DL.run tab (n + 1) 11 [.bool true, .bool true] S = .ok (.bool true) S := by
  rw [same_bool]; rfl
theorem same_ns (n : Nat) (S : Store) (X : List Nat) (hX : X.length ≤ 100000) : DL.run tab (n + 3) 11 [.tuple (X.map nD), .tuple (X.map nD)] S = .ok (.bool true) S := by
  refine same_refl n 3 (.tuple (X.map nD)) ?_ ?_ S
  · simp only [smD, List.length_map, Bool.and_eq_true, decide_eq_true_eq]
    refine ⟨hX, smL_iff.mpr fun x hx => ?_⟩
    obtain ⟨a, _, rfl⟩ := List.mem_map.mp hx
    rfl
  · have := depth_ns X
    show PyData.depthAll (X.map nD) + 1 < 3
    omega
theorem bx_new {S : Store} {a b : Int} : Bx (S ++ [.lst [.int a, .int b]]) S.length (S ++ [.lst [.int a, .int b]]) := Bx.of (a := a) (b := b) (by simp [atL])
theorem body (n : Nat) (ns : List Int) (hn : ns.length ≤ 63) : W (DL.execs (DL.run tab (n + 9)) b_law [some (ro ns), none, none, none, none, none, none, none, none, none, none, none, none, none] []) ⟨fun _ _ => False, fun d _ => d = .bool true, fun _ _ => False, fun _ _ => False, nX⟩ := by
  unfold b_law
  fail "wgx"
  with_reducible refine W_cut (fun e S' => S' = [] ∧ ∃ x1 x2 x3 x4 : Option D, e = [some (ro ns), x1, x2, x3, x4, none, none, none, none, none, none, none, none, none]) ?_ ?_
  · with_reducible refine W_frl (α := Ty) tyD (fun l e S' => S' = [] ∧ (∀ q ∈ l, mtB q = true) ∧ ∃ x1 x2 x3 x4 : Option D, e = [some (ro ns), x1, x2, x3, x4, none, none, none, none, none, none, none, none, none]) ?_
    fail "wgx"
    rw [typed_eq]
    refine R_ok ?_
    fail "wgx"
    refine ⟨typed, none, val_n rfl rfl, ⟨rfl, typed_mt, _, _, _, _, rfl⟩, fun _ _ _ _ => rfl, ?_, ?_⟩
    · rintro ⟨h, st, b, t⟩ r env S2 ⟨rfl, hq, x1, x2, x3, x4, rfl⟩
      have hq1 := hq _ List.mem_cons_self
      refine ⟨_, rfl, ?_⟩
      fail "wgx"
      with_reducible refine W_ifs ?_
      fail "wgx"
      rw [right_eq (n + 4) rfl (mtB_mt hq1)]
      refine R_ok ⟨true, rfl, false, rfl, fun k => absurd k (by simp), fun _ => ?_⟩
      fail "wgx"
      exact ⟨rfl, fun q hq2 => hq q (List.mem_cons_of_mem _ hq2), _, _, _, _, rfl⟩
    · rintro env S2 ⟨rfl, -, x1, x2, x3, x4, rfl⟩
      exact ⟨rfl, _, _, _, _, rfl⟩
  rintro e S' ⟨rfl, x1, x2, x3, x4, rfl⟩
  fail "wgx"
  with_reducible refine W_cut (fun e S' => True) ?_ ?_
  · with_reducible refine W_frl (α := Nat) nD (fun l e S' => lsts S' = true ∧ ∃ x1 x2 x3 x4 x5 x6 x7 x8 x9 x10 x11 x12 x13 : Option D, e = [some (ro ns), x1, x2, x3, x4, x5, x6, x7, x8, x9, x10, x11, x12, x13]) ?_
    fail "wgx"
    refine ⟨_, none, rng1_i (by split <;> omega) (by split <;> (try split) <;> omega) _, ⟨rfl, _, _, _, _, _, _, _, _, _, _, _, _, _, rfl⟩, fun _ _ _ _ => rfl, ?_, fun _ _ _ => trivial⟩
    rintro y r env S2 ⟨hS2, x1, x2, x3, x4, x5, x6, x7, x8, x9, x10, x11, x12, x13, rfl⟩
    refine ⟨_, rfl, ?_⟩
    fail "wgx"
    obtain ⟨a, b, eb⟩ := box_eq (n + 8) ns y S2
    rw [eb]
    refine R_ok ⟨_, rfl, ?_⟩
    have hS : lsts (S2 ++ [.lst [.int a, .int b]]) = true := nX_lsts hS2
    have HB : Bx (S2 ++ [.lst [.int a, .int b]]) S2.length (S2 ++ [.lst [.int a, .int b]]) := bx_new
    generalize S2 ++ [.lst [.int a, .int b]] = S0 at hS HB ⊢
    generalize S2.length = k at HB ⊢
    clear eb hS2 S2
    fail "wgx"
    with_reducible refine W_frl (α := Nat) nD (fun l e S' => Bx S0 k S' ∧ ∃ x1 x2 x3 x4 x5 x7 x8 x9 x10 x11 x12 x13 : Option D, e = [some (ro ns), x1, x2, x3, x4, x5, some (rf k), x7, x8, x9, x10, x11, x12, x13]) ?_
    fail "wgx"
    refine ⟨List.range 3, none, rng1_i (by omega) (by omega) _, ⟨HB, _, _, _, _, _, _, _, _, _, _, _, _, rfl⟩, fun _ _ _ _ => rfl, ?_, ?_⟩
    · rintro y r env S1 ⟨H1, x1, x2, x3, x4, x5, x7, x8, x9, x10, x11, x12, x13, rfl⟩
      refine ⟨_, rfl, ?_⟩
      fail "wgx"
      ((have hd := (some_house_d (n + 4) k)); (with_reducible refine DL.R_drw0 hd H1 hS ?_); clear hd)
      rintro d S2 ⟨h, rfl, V⟩ H2
      refine ⟨_, rfl, ?_⟩
      fail "wgx"
      ((have hd := (take_d (n + 8) k (m := 2) (by omega) (by omega))); (with_reducible refine DL.R_drw0 hd H2 hS ?_); clear hd)
      rintro d S3 ⟨i, rfl, hi⟩ H3
      fail "wgx"
      ((have hd := (new_d (n + 5) k V (decide (i = 0)))); (with_reducible refine DL.R_drw0 hd H3 hS ?_); clear hd)
      rintro d S4 ⟨b, t, rfl, ht, B⟩ H4
      refine ⟨_, rfl, ?_⟩
      fail "wgx"
      ((have hd := (same_d (n + 6) k V)); (with_reducible refine DL.R_drw0 hd H4 hS ?_); clear hd)
      rintro d S5 ⟨bk, ord, rfl, K⟩ H5
      refine ⟨_, rfl, ?_⟩
      fail "wgx"
      with_reducible refine R_compM nD (fun _ => gsD []) ?_
      fail "wgx"
      have hpl := V.pl
      refine ⟨h.seats, none, val_n rfl rfl, by omega, rfl, fun p hp => ⟨_, rfl, ?_⟩, ?_⟩
      · fail "wgx"
        exact ⟨rfl, rfl⟩
      fail "wgx"
      refine R_tuple rfl ?_
      have ee : PyData.tuple (h.seats.map fun _ => gsD []) = standD (emp h) := by
        unfold standD emp
        rw [List.map_map]
        rfl
      rw [ee]
      refine ⟨_, rfl, ?_⟩
      have hS5 := H5.lsts hS
      have me := (emp_sv h).mt V B ht
      fail "wgx"
      with_reducible refine W_ifs ?_
      fail "wgx"
      rw [may_eq (n + 5) hS5 me, emp_may V B ht]
      refine R_ok ?_
      fail "wgx"
      rw [tt]
      refine R_ok ⟨true, rfl, false, rfl, fun k => absurd k (by simp), fun _ => ?_⟩
      fail "wgx"
      have tK : PyData.tuple (ord.map nD) = turD (ord.map some) := by
        unfold turD
        rw [List.map_map]
        rfl
      rw [tK]
      with_reducible refine W_frl (α := Nat) nD (fun l e S' => Bx S0 k S' ∧ ∃ x2 x5 x7 x11 x12 x13 : Option D, e = [some (ro ns), some (hD h), x2, some (bookD b), some (turD t), x5, some (rf k), x7, some (bookD bk), some (turD (ord.map some)), some (standD (emp h)), x11, x12, x13]) ?_
      fail "wgx"
      refine ⟨List.range 5, none, rng1_i (by omega) (by omega) _, ⟨H5, _, _, _, _, _, _, rfl⟩, fun _ _ _ _ => rfl, ?_, ?_⟩
      · rintro y r env S6 ⟨H6, x2, x5, x7, x11, x12, x13, rfl⟩
        refine ⟨_, rfl, ?_⟩
        fail "wgx"
        refine ⟨by simp, ?_⟩
        fail "wgx"
        ((have hd := (pick_d (n + 7) k (f := nD) (l := [1, 2, 4, 4]) (by simp) (by simp) gnd_nD (fun _ => rfl) (d := .list [.int 1, .int 2, .int 4, .int 4]) fun _ => rfl)); (with_reducible refine DL.R_drw0 hd H6 hS ?_); clear hd)
        rintro d S7 ⟨much, hm, rfl⟩ H7
        fail "wgx"
        ((have hd := (stand_d (n + 6) k V much)); (with_reducible refine DL.R_drw0 hd H7 hS ?_); clear hd)
        rintro d S8 ⟨st, rfl, T⟩ H8
        refine ⟨_, rfl, ?_⟩
        have hS8 := H8.lsts hS
        have m1 := T.mt V B ht
        have hol : (ord.map some).length = h.stages.length := by rw [List.length_map, K.perm.length_eq, List.length_range]
        have m2 := T.mt V K.bt hol
        obtain ⟨l, e1, e2⟩ := kept_stk V T K
        fail "wgx"
        with_reducible refine W_ifs ?_
        with_reducible refine R_or ?_
        fail "wgx"
        rw [right_eq (n + 4) hS8 m1]
        refine R_ok ⟨true, rfl, false, rfl, fun k => absurd k (by simp), fun _ => ?_⟩
        fail "wgx"
        rw [right_eq (n + 4) hS8 m2]
        refine R_ok ⟨true, rfl, false, rfl, fun k => absurd k (by simp), fun _ => ?_⟩
        fail "wgx"
        refine (chg_eq (n + 7) hS8 m2.C (hD h)).imp ?_ ?_
        · rintro d S' ⟨rfl, l', e3, rfl⟩
          rw [e1, Sum.inr.injEq] at e3
          subst e3
          refine ⟨_, rfl, ?_⟩
          fail "wgx"
          with_reducible refine W_ifs ?_
          fail "wgx"
          refine ⟨by simp, ?_⟩
          fail "wgx"
          have q1 : DL.run tab (n + 9) 3 [.tuple [seatsD h.seats, bookD bk], standD l] S' = .ok (.tuple ((Stk (bookH h bk) l).map nD)) S' := stuck_eq (h := bookH h bk) (n + 6) (m2.sw e1)
          rw [q1]
          refine R_ok ?_
          fail "wgx"
          rw [lstuck_eq (n + 7) hS8 (T.sw V), e2]
          refine R_ok ?_
          fail "wgx"
          refine R_tuple rfl ?_
          fail "wgx"
          have hz := Stk_len (h := h) (st := st)
          have hz2 := (T.sw V).z
          rw [same_ns (n + 6) S' _ (by omega)]
          refine R_ok ⟨true, rfl, false, rfl, fun k => absurd k (by simp), fun _ => ?_⟩
          fail "wgx"
          exact ⟨H8, _, _, _, _, _, _, rfl⟩
        · rintro c d S' ⟨-, -, p, e3, -⟩
          rw [e1] at e3
          cases e3
      · rintro env S6 ⟨H6, x2, x5, x7, x11, x12, x13, rfl⟩
        fail "wgx"
        exact ⟨H6, _, _, _, _, _, _, _, _, _, _, _, _, rfl⟩
    · rintro env S1 ⟨H1, x1, x2, x3, x4, x5, x7, x8, x9, x10, x11, x12, x13, rfl⟩
      fail "wgx"
      exact ⟨H1.lsts hS, _, _, _, _, _, _, _, _, _, _, _, _, _, rfl⟩
  rintro e S' -
  fail "wgx"
  exact rfl
theorem plain : ∀ ns : List Int, ns.length ≤ 63 → ∃ S, DL.run tab (40 + 1) 27 [DL.ro ns] [] = .ok (.bool true) S := by
  intro ns hn
  rw [r_law]
  have h := body 31 ns hn
  cases e : DL.execs (DL.run tab 40) b_law [some (ro ns), none, none, none, none, none, none, none, none, none, none, none, none, none] [] with
  | rt d S' =>
    rw [e] at h
    have h' : d = .bool true := h
    subst h'
    simp only [DL.gc]
    split
    · exact ⟨_, rfl⟩
    · exact ⟨_, rfl⟩
  | nx e2 S2 => rw [e] at h; exact h.elim
  | bk e2 S2 => rw [e] at h; exact h.elim
  | ct e2 S2 => rw [e] at h; exact h.elim
  | exc c d e2 S2 => rw [e] at h; exact h.elim
  | bad => rw [e] at h; exact h.elim
end Lw

namespace Lw
open PySem PySem.Spec PyProof.Rows L2 DL
abbrev RowX : PySem.W.OpenRow := PySem.W.OpenLaw.row PySem.Challenge.rw_lookonce_k78_may_the_new_book_come
def file : Str := RowX.prog.main.file
def top (i : Nat) : Stmt := PySem.Challenge.pw_lookonce_k78_may_the_new_book_come.main.body.getD i (.Pass ⟨0, 0, 0, 0⟩)
def prsL : List (List Str) := [(["house", "guest"] : List Str), (["house", "stand", "place"] : List Str), (["house", "stand", "place", "lot"] : List Str), (["house", "stand"] : List Str), (["stages", "turned", "place", "guest"] : List Str), (["house", "stand", "stages", "turned"] : List Str), (["house", "stand", "stages", "turned"] : List Str), (["script", "k"] : List Str), (["box", "many"] : List Str), (["box", "some"] : List Str), (["box", "some"] : List Str), (["told", "due"] : List Str), (["house", "guest"] : List Str), (["house", "stand"] : List Str), (["house", "place"] : List Str), (["box", "spots", "stage", "last"] : List Str), (["box", "places", "stages", "ends"] : List Str), (["box", "house", "much"] : List Str), (["box", "spots", "place", "nexts"] : List Str), (["box", "house", "loose"] : List Str), (["box", "house"] : List Str), (["stages", "turned", "place", "guest"] : List Str), (["stand", "stages", "turned"] : List Str), (["house", "stand", "stages", "turned"] : List Str), (["box"] : List Str), ([] : List Str), (["house", "stand", "stages", "turned"] : List Str), (["script"] : List Str)]
def dfsL : List (List D) := [([] : List D), ([] : List D), ([] : List D), ([] : List D), ([] : List D), ([] : List D), ([] : List D), ([] : List D), ([] : List D), ([] : List D), ([] : List D), ([] : List D), ([] : List D), ([] : List D), ([] : List D), ([] : List D), ([] : List D), ([] : List D), ([] : List D), ([] : List D), ([] : List D), ([] : List D), ([] : List D), ([] : List D), ([] : List D), ([] : List D), ([] : List D), ([] : List D)]
def kwsL : List (List Nat) := [([] : List Nat), ([] : List Nat), ([] : List Nat), ([] : List Nat), ([] : List Nat), ([] : List Nat), ([0] : List Nat), ([] : List Nat), ([] : List Nat), ([] : List Nat), ([] : List Nat), ([] : List Nat), ([] : List Nat), ([] : List Nat), ([] : List Nat), ([] : List Nat), ([] : List Nat), ([] : List Nat), ([] : List Nat), ([] : List Nat), ([] : List Nat), ([] : List Nat), ([] : List Nat), ([] : List Nat), ([] : List Nat), ([] : List Nat), ([] : List Nat), ([] : List Nat)]
def exmL : List ((Nat × Str) × Bool) := [((0, ("BadStand" : Str)), true)]
def istL : List ((Nat × Str) × Bool) := []
def exfL : List (Nat × Str) := [(0, "at")]
def B : Tabs := ⟨[(("OUT" : Str), .int (-1))], [(("wanted_place" : Str), 0), (("has_room" : Str), 1), (("are_held" : Str), 2), (("stuck_lot" : Str), 3), (("turned_guest" : Str), 4), (("changed_stand" : Str), 5), (("may_change" : Str), 6), (("_law_box" : Str), 7), (("_law_take" : Str), 8), (("_law_pick" : Str), 9), (("_law_shuffled" : Str), 10), (("_law_same" : Str), 11), (("_law_want" : Str), 12), (("_law_stuck" : Str), 13), (("_law_kinds" : Str), 14), (("_law_nexts" : Str), 15), (("_law_drawn_house" : Str), 16), (("_law_any_stand" : Str), 17), (("_law_nexts_near" : Str), 18), (("_law_new_book" : Str), 19), (("_law_same_book" : Str), 20), (("_law_turned" : Str), 21), (("_law_due_stand" : Str), 22), (("_law_may" : Str), 23), (("_law_some_house" : Str), 24), (("_law_typed" : Str), 25), (("_law_may_right" : Str), 26), (("law" : Str), 27)], fun f => prsL.getD f [], fun f => dfsL.getD f [], fun f => kwsL.getD f [], ["abs", "all", "bool", "enumerate", "int", "isinstance", "len", "list", "max", "min", "range", "set", "sorted", "str", "super", "tuple", "zip"], [], [(("BadStand" : Str), 0)], ["BadStand"], exmL, exfL, istL, [], false, []⟩
def N_wanted_place : List Str := ["house", "guest"]
abbrev s_wanted_place : Stmt := top 5
theorem c_wanted_place : ckSs (B.at 0) N_wanted_place (defScope s_wanted_place) b_wanted_place (defBody s_wanted_place) = true := by decide +kernel
theorem z_wanted_place : C8.scC N_wanted_place (B.prs 0) (defScope s_wanted_place) = true := by decide +kernel
def d_wanted_place : He.DefD := ⟨("wanted_place", none), "wanted_place", "wanted_place", defArgs s_wanted_place, defBody s_wanted_place, defScope s_wanted_place, [], []⟩
def N_has_room : List Str := ["house", "stand", "place"]
abbrev s_has_room : Stmt := top 6
theorem c_has_room : ckSs (B.at 1) N_has_room (defScope s_has_room) b_has_room (defBody s_has_room) = true := by decide +kernel
theorem z_has_room : C8.scC N_has_room (B.prs 1) (defScope s_has_room) = true := by decide +kernel
def d_has_room : He.DefD := ⟨("has_room", none), "has_room", "has_room", defArgs s_has_room, defBody s_has_room, defScope s_has_room, [], []⟩
def N_are_held : List Str := ["house", "stand", "place", "lot", "guest"]
abbrev s_are_held : Stmt := top 8
theorem c_are_held : ckSs (B.at 2) N_are_held (defScope s_are_held) b_are_held (defBody s_are_held) = true := by decide +kernel
theorem z_are_held : C8.scC N_are_held (B.prs 2) (defScope s_are_held) = true := by decide +kernel
def d_are_held : He.DefD := ⟨("are_held", none), "are_held", "are_held", defArgs s_are_held, defBody s_are_held, defScope s_are_held, [], []⟩
def N_stuck_lot : List Str := ["house", "stand", "lot", "later", "place"]
abbrev s_stuck_lot : Stmt := top 9
theorem c_stuck_lot : ckSs (B.at 3) N_stuck_lot (defScope s_stuck_lot) b_stuck_lot (defBody s_stuck_lot) = true := by decide +kernel
theorem z_stuck_lot : C8.scC N_stuck_lot (B.prs 3) (defScope s_stuck_lot) = true := by decide +kernel
def d_stuck_lot : He.DefD := ⟨("stuck_lot", none), "stuck_lot", "stuck_lot", defArgs s_stuck_lot, defBody s_stuck_lot, defScope s_stuck_lot, [], []⟩
def N_turned_guest : List Str := ["stages", "turned", "place", "guest", "stage", "after", "later", "spot", "nexts"]
abbrev s_turned_guest : Stmt := top 11
theorem c_turned_guest : ckSs (B.at 4) N_turned_guest (defScope s_turned_guest) b_turned_guest (defBody s_turned_guest) = true := by decide +kernel
theorem z_turned_guest : C8.scC N_turned_guest (B.prs 4) (defScope s_turned_guest) = true := by decide +kernel
def d_turned_guest : He.DefD := ⟨("turned_guest", none), "turned_guest", "turned_guest", defArgs s_turned_guest, defBody s_turned_guest, defScope s_turned_guest, [], []⟩
def N_changed_stand : List Str := ["house", "stand", "stages", "turned", "rows", "place", "guests", "row", "guest"]
abbrev s_changed_stand : Stmt := top 12
theorem c_changed_stand : ckSs (B.at 5) N_changed_stand (defScope s_changed_stand) b_changed_stand (defBody s_changed_stand) = true := by decide +kernel
theorem z_changed_stand : C8.scC N_changed_stand (B.prs 5) (defScope s_changed_stand) = true := by decide +kernel
def d_changed_stand : He.DefD := ⟨("changed_stand", none), "changed_stand", "changed_stand", defArgs s_changed_stand, defBody s_changed_stand, defScope s_changed_stand, [], []⟩
def N_may_change : List Str := ["house", "stand", "stages", "turned", "later"]
abbrev s_may_change : Stmt := top 13
theorem c_may_change : ckSs (B.at 6) N_may_change (defScope s_may_change) b_may_change (defBody s_may_change) = true := by decide +kernel
theorem z_may_change : C8.scC N_may_change (B.prs 6) (defScope s_may_change) = true := by decide +kernel
def d_may_change : He.DefD := ⟨("may_change", none), "may_change", "may_change", defArgs s_may_change, defBody s_may_change, defScope s_may_change, [], []⟩
def N__law_box : List Str := ["script", "k", "cell", "great"]
abbrev s__law_box : Stmt := top 15
theorem c__law_box : ckSs (B.at 7) N__law_box (defScope s__law_box) b__law_box (defBody s__law_box) = true := by decide +kernel
theorem z__law_box : C8.scC N__law_box (B.prs 7) (defScope s__law_box) = true := by decide +kernel
def d__law_box : He.DefD := ⟨("_law_box", none), "_law_box", "_law_box", defArgs s__law_box, defBody s__law_box, defScope s__law_box, [], []⟩
def N__law_take : List Str := ["box", "many", "digit", "raw"]
abbrev s__law_take : Stmt := top 16
theorem c__law_take : ckSs (B.at 8) N__law_take (defScope s__law_take) b__law_take (defBody s__law_take) = true := by decide +kernel
theorem z__law_take : C8.scC N__law_take (B.prs 8) (defScope s__law_take) = true := by decide +kernel
def d__law_take : He.DefD := ⟨("_law_take", none), "_law_take", "_law_take", defArgs s__law_take, defBody s__law_take, defScope s__law_take, [], []⟩
def N__law_pick : List Str := ["box", "some"]
abbrev s__law_pick : Stmt := top 17
theorem c__law_pick : ckSs (B.at 9) N__law_pick (defScope s__law_pick) b__law_pick (defBody s__law_pick) = true := by decide +kernel
theorem z__law_pick : C8.scC N__law_pick (B.prs 9) (defScope s__law_pick) = true := by decide +kernel
def d__law_pick : He.DefD := ⟨("_law_pick", none), "_law_pick", "_law_pick", defArgs s__law_pick, defBody s__law_pick, defScope s__law_pick, [], []⟩
def N__law_shuffled : List Str := ["box", "some", "left", "found", "turn"]
abbrev s__law_shuffled : Stmt := top 18
theorem c__law_shuffled : ckSs (B.at 10) N__law_shuffled (defScope s__law_shuffled) b__law_shuffled (defBody s__law_shuffled) = true := by decide +kernel
theorem z__law_shuffled : C8.scC N__law_shuffled (B.prs 10) (defScope s__law_shuffled) = true := by decide +kernel
def d__law_shuffled : He.DefD := ⟨("_law_shuffled", none), "_law_shuffled", "_law_shuffled", defArgs s__law_shuffled, defBody s__law_shuffled, defScope s__law_shuffled, [], []⟩
def N__law_same : List Str := ["told", "due", "one", "other"]
abbrev s__law_same : Stmt := top 19
theorem c__law_same : ckSs (B.at 11) N__law_same (defScope s__law_same) b__law_same (defBody s__law_same) = true := by decide +kernel
theorem z__law_same : C8.scC N__law_same (B.prs 11) (defScope s__law_same) = true := by decide +kernel
def d__law_same : He.DefD := ⟨("_law_same", none), "_law_same", "_law_same", defArgs s__law_same, defBody s__law_same, defScope s__law_same, [], []⟩
def N__law_want : List Str := ["house", "guest"]
abbrev s__law_want : Stmt := top 20
theorem c__law_want : ckSs (B.at 12) N__law_want (defScope s__law_want) b__law_want (defBody s__law_want) = true := by decide +kernel
theorem z__law_want : C8.scC N__law_want (B.prs 12) (defScope s__law_want) = true := by decide +kernel
def d__law_want : He.DefD := ⟨("_law_want", none), "_law_want", "_law_want", defArgs s__law_want, defBody s__law_want, defScope s__law_want, [], []⟩
def N__law_stuck : List Str := ["house", "stand", "left", "place", "turn", "kept", "guest"]
abbrev s__law_stuck : Stmt := top 21
theorem c__law_stuck : ckSs (B.at 13) N__law_stuck (defScope s__law_stuck) b__law_stuck (defBody s__law_stuck) = true := by decide +kernel
theorem z__law_stuck : C8.scC N__law_stuck (B.prs 13) (defScope s__law_stuck) = true := by decide +kernel
def d__law_stuck : He.DefD := ⟨("_law_stuck", none), "_law_stuck", "_law_stuck", defArgs s__law_stuck, defBody s__law_stuck, defScope s__law_stuck, [], []⟩
def N__law_kinds : List Str := ["house", "place", "found", "number", "stage", "after"]
abbrev s__law_kinds : Stmt := top 22
theorem c__law_kinds : ckSs (B.at 14) N__law_kinds (defScope s__law_kinds) b__law_kinds (defBody s__law_kinds) = true := by decide +kernel
theorem z__law_kinds : C8.scC N__law_kinds (B.prs 14) (defScope s__law_kinds) = true := by decide +kernel
def d__law_kinds : He.DefD := ⟨("_law_kinds", none), "_law_kinds", "_law_kinds", defArgs s__law_kinds, defBody s__law_kinds, defScope s__law_kinds, [], []⟩
def N__law_nexts : List Str := ["box", "spots", "stage", "last", "some", "number", "found"]
abbrev s__law_nexts : Stmt := top 23
theorem c__law_nexts : ckSs (B.at 15) N__law_nexts (defScope s__law_nexts) b__law_nexts (defBody s__law_nexts) = true := by decide +kernel
theorem z__law_nexts : C8.scC N__law_nexts (B.prs 15) (defScope s__law_nexts) = true := by decide +kernel
def d__law_nexts : He.DefD := ⟨("_law_nexts", none), "_law_nexts", "_law_nexts", defArgs s__law_nexts, defBody s__law_nexts, defScope s__law_nexts, [], []⟩
def N__law_drawn_house : List Str := ["box", "places", "stages", "ends", "seats", "place", "spots", "stage", "rows"]
abbrev s__law_drawn_house : Stmt := top 24
theorem c__law_drawn_house : ckSs (B.at 16) N__law_drawn_house (defScope s__law_drawn_house) b__law_drawn_house (defBody s__law_drawn_house) = true := by decide +kernel
theorem z__law_drawn_house : C8.scC N__law_drawn_house (B.prs 16) (defScope s__law_drawn_house) = true := by decide +kernel
def d__law_drawn_house : He.DefD := ⟨("_law_drawn_house", none), "_law_drawn_house", "_law_drawn_house", defArgs s__law_drawn_house, defBody s__law_drawn_house, defScope s__law_drawn_house, [], []⟩
def N__law_any_stand : List Str := ["box", "house", "much", "stand", "place", "seats", "kinds", "guests", "seat"]
abbrev s__law_any_stand : Stmt := top 25
theorem c__law_any_stand : ckSs (B.at 17) N__law_any_stand (defScope s__law_any_stand) b__law_any_stand (defBody s__law_any_stand) = true := by decide +kernel
theorem z__law_any_stand : C8.scC N__law_any_stand (B.prs 17) (defScope s__law_any_stand) = true := by decide +kernel
def d__law_any_stand : He.DefD := ⟨("_law_any_stand", none), "_law_any_stand", "_law_any_stand", defArgs s__law_any_stand, defBody s__law_any_stand, defScope s__law_any_stand, [], []⟩
def N__law_nexts_near : List Str := ["box", "spots", "place", "nexts", "found", "after", "others", "number"]
abbrev s__law_nexts_near : Stmt := top 26
theorem c__law_nexts_near : ckSs (B.at 18) N__law_nexts_near (defScope s__law_nexts_near) b__law_nexts_near (defBody s__law_nexts_near) = true := by decide +kernel
theorem z__law_nexts_near : C8.scC N__law_nexts_near (B.prs 18) (defScope s__law_nexts_near) = true := by decide +kernel
def d__law_nexts_near : He.DefD := ⟨("_law_nexts_near", none), "_law_nexts_near", "_law_nexts_near", defArgs s__law_nexts_near, defBody s__law_nexts_near, defScope s__law_nexts_near, [], []⟩
def N__law_new_book : List Str := ["box", "house", "loose", "old", "many", "order", "turned", "spots", "number", "stages", "nexts", "after", "told"]
abbrev s__law_new_book : Stmt := top 27
theorem c__law_new_book : ckSs (B.at 19) N__law_new_book (defScope s__law_new_book) b__law_new_book (defBody s__law_new_book) = true := by decide +kernel
theorem z__law_new_book : C8.scC N__law_new_book (B.prs 19) (defScope s__law_new_book) = true := by decide +kernel
def d__law_new_book : He.DefD := ⟨("_law_new_book", none), "_law_new_book", "_law_new_book", defArgs s__law_new_book, defBody s__law_new_book, defScope s__law_new_book, [], []⟩
def N__law_same_book : List Str := ["box", "house", "old", "order", "stages", "stage", "number", "nexts", "after", "more", "other"]
abbrev s__law_same_book : Stmt := top 28
theorem c__law_same_book : ckSs (B.at 20) N__law_same_book (defScope s__law_same_book) b__law_same_book (defBody s__law_same_book) = true := by decide +kernel
theorem z__law_same_book : C8.scC N__law_same_book (B.prs 20) (defScope s__law_same_book) = true := by decide +kernel
def d__law_same_book : He.DefD := ⟨("_law_same_book", none), "_law_same_book", "_law_same_book", defArgs s__law_same_book, defBody s__law_same_book, defScope s__law_same_book, [], []⟩
def N__law_turned : List Str := ["stages", "turned", "place", "guest", "stage", "after"]
abbrev s__law_turned : Stmt := top 29
theorem c__law_turned : ckSs (B.at 21) N__law_turned (defScope s__law_turned) b__law_turned (defBody s__law_turned) = true := by decide +kernel
theorem z__law_turned : C8.scC N__law_turned (B.prs 21) (defScope s__law_turned) = true := by decide +kernel
def d__law_turned : He.DefD := ⟨("_law_turned", none), "_law_turned", "_law_turned", defArgs s__law_turned, defBody s__law_turned, defScope s__law_turned, [], []⟩
def N__law_due_stand : List Str := ["stand", "stages", "turned", "rows", "place", "guests", "some", "guest"]
abbrev s__law_due_stand : Stmt := top 30
theorem c__law_due_stand : ckSs (B.at 22) N__law_due_stand (defScope s__law_due_stand) b__law_due_stand (defBody s__law_due_stand) = true := by decide +kernel
theorem z__law_due_stand : C8.scC N__law_due_stand (B.prs 22) (defScope s__law_due_stand) = true := by decide +kernel
def d__law_due_stand : He.DefD := ⟨("_law_due_stand", none), "_law_due_stand", "_law_due_stand", defArgs s__law_due_stand, defBody s__law_due_stand, defScope s__law_due_stand, [], []⟩
def N__law_may : List Str := ["house", "stand", "stages", "turned", "due"]
abbrev s__law_may : Stmt := top 31
theorem c__law_may : ckSs (B.at 23) N__law_may (defScope s__law_may) b__law_may (defBody s__law_may) = true := by decide +kernel
theorem z__law_may : C8.scC N__law_may (B.prs 23) (defScope s__law_may) = true := by decide +kernel
def d__law_may : He.DefD := ⟨("_law_may", none), "_law_may", "_law_may", defArgs s__law_may, defBody s__law_may, defScope s__law_may, [], []⟩
def N__law_some_house : List Str := ["box"]
abbrev s__law_some_house : Stmt := top 32
theorem c__law_some_house : ckSs (B.at 24) N__law_some_house (defScope s__law_some_house) b__law_some_house (defBody s__law_some_house) = true := by decide +kernel
theorem z__law_some_house : C8.scC N__law_some_house (B.prs 24) (defScope s__law_some_house) = true := by decide +kernel
def d__law_some_house : He.DefD := ⟨("_law_some_house", none), "_law_some_house", "_law_some_house", defArgs s__law_some_house, defBody s__law_some_house, defScope s__law_some_house, [], []⟩
def N__law_typed : List Str := ["house", "stand", "stages", "both"]
abbrev s__law_typed : Stmt := top 33
theorem c__law_typed : ckSs (B.at 25) N__law_typed (defScope s__law_typed) b__law_typed (defBody s__law_typed) = true := by decide +kernel
theorem z__law_typed : C8.scC N__law_typed (B.prs 25) (defScope s__law_typed) = true := by decide +kernel
def d__law_typed : He.DefD := ⟨("_law_typed", none), "_law_typed", "_law_typed", defArgs s__law_typed, defBody s__law_typed, defScope s__law_typed, [], []⟩
def N__law_may_right : List Str := ["house", "stand", "stages", "turned"]
abbrev s__law_may_right : Stmt := top 34
theorem c__law_may_right : ckSs (B.at 26) N__law_may_right (defScope s__law_may_right) b__law_may_right (defBody s__law_may_right) = true := by decide +kernel
theorem z__law_may_right : C8.scC N__law_may_right (B.prs 26) (defScope s__law_may_right) = true := by decide +kernel
def d__law_may_right : He.DefD := ⟨("_law_may_right", none), "_law_may_right", "_law_may_right", defArgs s__law_may_right, defBody s__law_may_right, defScope s__law_may_right, [], []⟩
def N_law : List Str := ["script", "house", "stand", "stages", "turned", "k", "box", "turn", "kept", "order", "empty", "seats", "again", "behind"]
abbrev s_law : Stmt := top 35
theorem c_law : ckSs (B.at 27) N_law (defScope s_law) b_law (defBody s_law) = true := by decide +kernel
theorem z_law : C8.scC N_law (B.prs 27) (defScope s_law) = true := by decide +kernel
def d_law : He.DefD := ⟨("law", none), "law", "law", defArgs s_law, defBody s_law, defScope s_law, [], []⟩
def clsBody (s : Stmt) : List Stmt := match s with
  | .ClassDef _ _ _ b _ _ _ _ _ _ _ => b
  | _ => []
abbrev i_BadStand : Stmt := (clsBody (top 2)).getD 0 (.Pass ⟨0, 0, 0, 0⟩)
def x_BadStand : DL.ExD := ⟨"BadStand", "at", "at", "BadStand.__init__", defArgs i_BadStand, defBody i_BadStand, defScope i_BadStand⟩
theorem t_BadStand : DL.ExTxt x_BadStand := ⟨by decide +kernel, by decide +kernel, ⟨_, rfl, by decide +kernel⟩, fun _ _ _ _ _ _ _ us hl => match us, hl with | [_, _], _ => rfl⟩
def xd : DL.XD := ⟨[x_BadStand], [], exmL, istL, []⟩
def fn : List He.DefD := [d_wanted_place, d_has_room, d_are_held, d_stuck_lot, d_turned_guest, d_changed_stand, d_may_change, d__law_box, d__law_take, d__law_pick, d__law_shuffled, d__law_same, d__law_want, d__law_stuck, d__law_kinds, d__law_nexts, d__law_drawn_house, d__law_any_stand, d__law_nexts_near, d__law_new_book, d__law_same_book, d__law_turned, d__law_due_stand, d__law_may, d__law_some_house, d__law_typed, d__law_may_right, d_law]
def fa : List He.Fa := [He.Fa.glo "wanted_place", He.Fa.glo "has_room", He.Fa.glo "are_held", He.Fa.glo "stuck_lot", He.Fa.glo "turned_guest", He.Fa.glo "changed_stand", He.Fa.glo "may_change", He.Fa.glo "_law_box", He.Fa.glo "_law_take", He.Fa.glo "_law_pick", He.Fa.glo "_law_shuffled", He.Fa.glo "_law_same", He.Fa.glo "_law_want", He.Fa.glo "_law_stuck", He.Fa.glo "_law_kinds", He.Fa.glo "_law_nexts", He.Fa.glo "_law_drawn_house", He.Fa.glo "_law_any_stand", He.Fa.glo "_law_nexts_near", He.Fa.glo "_law_new_book", He.Fa.glo "_law_same_book", He.Fa.glo "_law_turned", He.Fa.glo "_law_due_stand", He.Fa.glo "_law_may", He.Fa.glo "_law_some_house", He.Fa.glo "_law_typed", He.Fa.glo "_law_may_right", He.Fa.glo "law", .int "OUT" (-1), .free "abs", .free "all", .free "bool", .free "enumerate", .free "int", .free "isinstance", .free "len", .free "list", .free "max", .free "min", .free "range", .free "set", .free "sorted", .free "str", .free "super", .free "tuple", .free "zip"]
def ts : List He.Tab := []
def ex : List DL.KC := []
section
variable {K : PySem.W.Frag} {h : Heap} {mg : Str → Option Value}
def D_wanted_place {w : World} (X : K.In h) (G : h.Ns mainGlobals mg) (cx : DL.SaysX file fa fn ts ex xd w K h) (c : He.SaysD fa fn K) {fd : FuncData} (F : FunD K "wanted_place" "wanted_place" (defArgs s_wanted_place) (defBody s_wanted_place) (defScope s_wanted_place) [] [] (He.fAd K (("wanted_place" : Str), none)) fd) : DefIn B K mg tab "wanted_place" 0 where
  N := N_wanted_place
  params := _
  body := _
  scope := _
  fn := f_wanted_place
  dvs := _
  ad := _
  fd := _
  htab := rfl
  hslots := rfl
  hpars := rfl
  hsc := z_wanted_place
  hck := c_wanted_place
  hlam := fun z => absurd z (by decide)
  hmg := He.glo_ok X G (c.fact 0 (f := .glo "wanted_place") rfl)
  hF := F
  hd := hd0 F fun _ _ _ _ _ _ us hl => match us, hl with | [_, _], _ => rfl
  hk := all_nil
def D_has_room {w : World} (X : K.In h) (G : h.Ns mainGlobals mg) (cx : DL.SaysX file fa fn ts ex xd w K h) (c : He.SaysD fa fn K) {fd : FuncData} (F : FunD K "has_room" "has_room" (defArgs s_has_room) (defBody s_has_room) (defScope s_has_room) [] [] (He.fAd K (("has_room" : Str), none)) fd) : DefIn B K mg tab "has_room" 1 where
  N := N_has_room
  params := _
  body := _
  scope := _
  fn := f_has_room
  dvs := _
  ad := _
  fd := _
  htab := rfl
  hslots := rfl
  hpars := rfl
  hsc := z_has_room
  hck := c_has_room
  hlam := fun z => absurd z (by decide)
  hmg := He.glo_ok X G (c.fact 1 (f := .glo "has_room") rfl)
  hF := F
  hd := hd0 F fun _ _ _ _ _ _ us hl => match us, hl with | [_, _, _], _ => rfl
  hk := all_nil
def D_are_held {w : World} (X : K.In h) (G : h.Ns mainGlobals mg) (cx : DL.SaysX file fa fn ts ex xd w K h) (c : He.SaysD fa fn K) {fd : FuncData} (F : FunD K "are_held" "are_held" (defArgs s_are_held) (defBody s_are_held) (defScope s_are_held) [] [] (He.fAd K (("are_held" : Str), none)) fd) : DefIn B K mg tab "are_held" 2 where
  N := N_are_held
  params := _
  body := _
  scope := _
  fn := f_are_held
  dvs := _
  ad := _
  fd := _
  htab := rfl
  hslots := rfl
  hpars := rfl
  hsc := z_are_held
  hck := c_are_held
  hlam := fun z => absurd z (by decide)
  hmg := He.glo_ok X G (c.fact 2 (f := .glo "are_held") rfl)
  hF := F
  hd := hd0 F fun _ _ _ _ _ _ us hl => match us, hl with | [_, _, _, _], _ => rfl
  hk := all_nil
def D_stuck_lot {w : World} (X : K.In h) (G : h.Ns mainGlobals mg) (cx : DL.SaysX file fa fn ts ex xd w K h) (c : He.SaysD fa fn K) {fd : FuncData} (F : FunD K "stuck_lot" "stuck_lot" (defArgs s_stuck_lot) (defBody s_stuck_lot) (defScope s_stuck_lot) [] [] (He.fAd K (("stuck_lot" : Str), none)) fd) : DefIn B K mg tab "stuck_lot" 3 where
  N := N_stuck_lot
  params := _
  body := _
  scope := _
  fn := f_stuck_lot
  dvs := _
  ad := _
  fd := _
  htab := rfl
  hslots := rfl
  hpars := rfl
  hsc := z_stuck_lot
  hck := c_stuck_lot
  hlam := fun z => absurd z (by decide)
  hmg := He.glo_ok X G (c.fact 3 (f := .glo "stuck_lot") rfl)
  hF := F
  hd := hd0 F fun _ _ _ _ _ _ us hl => match us, hl with | [_, _], _ => rfl
  hk := all_nil
def D_turned_guest {w : World} (X : K.In h) (G : h.Ns mainGlobals mg) (cx : DL.SaysX file fa fn ts ex xd w K h) (c : He.SaysD fa fn K) {fd : FuncData} (F : FunD K "turned_guest" "turned_guest" (defArgs s_turned_guest) (defBody s_turned_guest) (defScope s_turned_guest) [] [] (He.fAd K (("turned_guest" : Str), none)) fd) : DefIn B K mg tab "turned_guest" 4 where
  N := N_turned_guest
  params := _
  body := _
  scope := _
  fn := f_turned_guest
  dvs := _
  ad := _
  fd := _
  htab := rfl
  hslots := rfl
  hpars := rfl
  hsc := z_turned_guest
  hck := c_turned_guest
  hlam := fun z => absurd z (by decide)
  hmg := He.glo_ok X G (c.fact 4 (f := .glo "turned_guest") rfl)
  hF := F
  hd := hd0 F fun _ _ _ _ _ _ us hl => match us, hl with | [_, _, _, _], _ => rfl
  hk := all_nil
def D_changed_stand {w : World} (X : K.In h) (G : h.Ns mainGlobals mg) (cx : DL.SaysX file fa fn ts ex xd w K h) (c : He.SaysD fa fn K) {fd : FuncData} (F : FunD K "changed_stand" "changed_stand" (defArgs s_changed_stand) (defBody s_changed_stand) (defScope s_changed_stand) [] [] (He.fAd K (("changed_stand" : Str), none)) fd) : DefIn B K mg tab "changed_stand" 5 where
  N := N_changed_stand
  params := _
  body := _
  scope := _
  fn := f_changed_stand
  dvs := _
  ad := _
  fd := _
  htab := rfl
  hslots := rfl
  hpars := rfl
  hsc := z_changed_stand
  hck := c_changed_stand
  hlam := fun z => absurd z (by decide)
  hmg := He.glo_ok X G (c.fact 5 (f := .glo "changed_stand") rfl)
  hF := F
  hd := hd0 F fun _ _ _ _ _ _ us hl => match us, hl with | [_, _, _, _], _ => rfl
  hk := all_nil
def D_may_change {w : World} (X : K.In h) (G : h.Ns mainGlobals mg) (cx : DL.SaysX file fa fn ts ex xd w K h) (c : He.SaysD fa fn K) {fd : FuncData} (F : FunD K "may_change" "may_change" (defArgs s_may_change) (defBody s_may_change) (defScope s_may_change) [] [] (He.fAd K (("may_change" : Str), none)) fd) : DefIn B K mg tab "may_change" 6 where
  N := N_may_change
  params := _
  body := _
  scope := _
  fn := f_may_change
  dvs := _
  ad := _
  fd := _
  htab := rfl
  hslots := rfl
  hpars := rfl
  hsc := z_may_change
  hck := c_may_change
  hlam := fun z => absurd z (by decide)
  hmg := He.glo_ok X G (c.fact 6 (f := .glo "may_change") rfl)
  hF := F
  hd := hd0 F fun _ _ _ _ _ _ us hl => match us, hl with | [_, _, _, _], _ => rfl
  hk := all_cons (kwN (k := 0) (ps := B.prs 6) F fun _ _ _ _ _ _ us ws hu hw => match us, hu, ws, hw with | [], _, [_, _, _, _], _ => rfl) (all_nil)
def D__law_box {w : World} (X : K.In h) (G : h.Ns mainGlobals mg) (cx : DL.SaysX file fa fn ts ex xd w K h) (c : He.SaysD fa fn K) {fd : FuncData} (F : FunD K "_law_box" "_law_box" (defArgs s__law_box) (defBody s__law_box) (defScope s__law_box) [] [] (He.fAd K (("_law_box" : Str), none)) fd) : DefIn B K mg tab "_law_box" 7 where
  N := N__law_box
  params := _
  body := _
  scope := _
  fn := f__law_box
  dvs := _
  ad := _
  fd := _
  htab := rfl
  hslots := rfl
  hpars := rfl
  hsc := z__law_box
  hck := c__law_box
  hlam := fun z => absurd z (by decide)
  hmg := He.glo_ok X G (c.fact 7 (f := .glo "_law_box") rfl)
  hF := F
  hd := hd0 F fun _ _ _ _ _ _ us hl => match us, hl with | [_, _], _ => rfl
  hk := all_nil
def D__law_take {w : World} (X : K.In h) (G : h.Ns mainGlobals mg) (cx : DL.SaysX file fa fn ts ex xd w K h) (c : He.SaysD fa fn K) {fd : FuncData} (F : FunD K "_law_take" "_law_take" (defArgs s__law_take) (defBody s__law_take) (defScope s__law_take) [] [] (He.fAd K (("_law_take" : Str), none)) fd) : DefIn B K mg tab "_law_take" 8 where
  N := N__law_take
  params := _
  body := _
  scope := _
  fn := f__law_take
  dvs := _
  ad := _
  fd := _
  htab := rfl
  hslots := rfl
  hpars := rfl
  hsc := z__law_take
  hck := c__law_take
  hlam := fun z => absurd z (by decide)
  hmg := He.glo_ok X G (c.fact 8 (f := .glo "_law_take") rfl)
  hF := F
  hd := hd0 F fun _ _ _ _ _ _ us hl => match us, hl with | [_, _], _ => rfl
  hk := all_nil
def D__law_pick {w : World} (X : K.In h) (G : h.Ns mainGlobals mg) (cx : DL.SaysX file fa fn ts ex xd w K h) (c : He.SaysD fa fn K) {fd : FuncData} (F : FunD K "_law_pick" "_law_pick" (defArgs s__law_pick) (defBody s__law_pick) (defScope s__law_pick) [] [] (He.fAd K (("_law_pick" : Str), none)) fd) : DefIn B K mg tab "_law_pick" 9 where
  N := N__law_pick
  params := _
  body := _
  scope := _
  fn := f__law_pick
  dvs := _
  ad := _
  fd := _
  htab := rfl
  hslots := rfl
  hpars := rfl
  hsc := z__law_pick
  hck := c__law_pick
  hlam := fun z => absurd z (by decide)
  hmg := He.glo_ok X G (c.fact 9 (f := .glo "_law_pick") rfl)
  hF := F
  hd := hd0 F fun _ _ _ _ _ _ us hl => match us, hl with | [_, _], _ => rfl
  hk := all_nil
def D__law_shuffled {w : World} (X : K.In h) (G : h.Ns mainGlobals mg) (cx : DL.SaysX file fa fn ts ex xd w K h) (c : He.SaysD fa fn K) {fd : FuncData} (F : FunD K "_law_shuffled" "_law_shuffled" (defArgs s__law_shuffled) (defBody s__law_shuffled) (defScope s__law_shuffled) [] [] (He.fAd K (("_law_shuffled" : Str), none)) fd) : DefIn B K mg tab "_law_shuffled" 10 where
  N := N__law_shuffled
  params := _
  body := _
  scope := _
  fn := f__law_shuffled
  dvs := _
  ad := _
  fd := _
  htab := rfl
  hslots := rfl
  hpars := rfl
  hsc := z__law_shuffled
  hck := c__law_shuffled
  hlam := fun z => absurd z (by decide)
  hmg := He.glo_ok X G (c.fact 10 (f := .glo "_law_shuffled") rfl)
  hF := F
  hd := hd0 F fun _ _ _ _ _ _ us hl => match us, hl with | [_, _], _ => rfl
  hk := all_nil
def D__law_same {w : World} (X : K.In h) (G : h.Ns mainGlobals mg) (cx : DL.SaysX file fa fn ts ex xd w K h) (c : He.SaysD fa fn K) {fd : FuncData} (F : FunD K "_law_same" "_law_same" (defArgs s__law_same) (defBody s__law_same) (defScope s__law_same) [] [] (He.fAd K (("_law_same" : Str), none)) fd) : DefIn B K mg tab "_law_same" 11 where
  N := N__law_same
  params := _
  body := _
  scope := _
  fn := f__law_same
  dvs := _
  ad := _
  fd := _
  htab := rfl
  hslots := rfl
  hpars := rfl
  hsc := z__law_same
  hck := c__law_same
  hlam := fun z => absurd z (by decide)
  hmg := He.glo_ok X G (c.fact 11 (f := .glo "_law_same") rfl)
  hF := F
  hd := hd0 F fun _ _ _ _ _ _ us hl => match us, hl with | [_, _], _ => rfl
  hk := all_nil
def D__law_want {w : World} (X : K.In h) (G : h.Ns mainGlobals mg) (cx : DL.SaysX file fa fn ts ex xd w K h) (c : He.SaysD fa fn K) {fd : FuncData} (F : FunD K "_law_want" "_law_want" (defArgs s__law_want) (defBody s__law_want) (defScope s__law_want) [] [] (He.fAd K (("_law_want" : Str), none)) fd) : DefIn B K mg tab "_law_want" 12 where
  N := N__law_want
  params := _
  body := _
  scope := _
  fn := f__law_want
  dvs := _
  ad := _
  fd := _
  htab := rfl
  hslots := rfl
  hpars := rfl
  hsc := z__law_want
  hck := c__law_want
  hlam := fun z => absurd z (by decide)
  hmg := He.glo_ok X G (c.fact 12 (f := .glo "_law_want") rfl)
  hF := F
  hd := hd0 F fun _ _ _ _ _ _ us hl => match us, hl with | [_, _], _ => rfl
  hk := all_nil
def D__law_stuck {w : World} (X : K.In h) (G : h.Ns mainGlobals mg) (cx : DL.SaysX file fa fn ts ex xd w K h) (c : He.SaysD fa fn K) {fd : FuncData} (F : FunD K "_law_stuck" "_law_stuck" (defArgs s__law_stuck) (defBody s__law_stuck) (defScope s__law_stuck) [] [] (He.fAd K (("_law_stuck" : Str), none)) fd) : DefIn B K mg tab "_law_stuck" 13 where
  N := N__law_stuck
  params := _
  body := _
  scope := _
  fn := f__law_stuck
  dvs := _
  ad := _
  fd := _
  htab := rfl
  hslots := rfl
  hpars := rfl
  hsc := z__law_stuck
  hck := c__law_stuck
  hlam := fun z => absurd z (by decide)
  hmg := He.glo_ok X G (c.fact 13 (f := .glo "_law_stuck") rfl)
  hF := F
  hd := hd0 F fun _ _ _ _ _ _ us hl => match us, hl with | [_, _], _ => rfl
  hk := all_nil
def D__law_kinds {w : World} (X : K.In h) (G : h.Ns mainGlobals mg) (cx : DL.SaysX file fa fn ts ex xd w K h) (c : He.SaysD fa fn K) {fd : FuncData} (F : FunD K "_law_kinds" "_law_kinds" (defArgs s__law_kinds) (defBody s__law_kinds) (defScope s__law_kinds) [] [] (He.fAd K (("_law_kinds" : Str), none)) fd) : DefIn B K mg tab "_law_kinds" 14 where
  N := N__law_kinds
  params := _
  body := _
  scope := _
  fn := f__law_kinds
  dvs := _
  ad := _
  fd := _
  htab := rfl
  hslots := rfl
  hpars := rfl
  hsc := z__law_kinds
  hck := c__law_kinds
  hlam := fun z => absurd z (by decide)
  hmg := He.glo_ok X G (c.fact 14 (f := .glo "_law_kinds") rfl)
  hF := F
  hd := hd0 F fun _ _ _ _ _ _ us hl => match us, hl with | [_, _], _ => rfl
  hk := all_nil
def D__law_nexts {w : World} (X : K.In h) (G : h.Ns mainGlobals mg) (cx : DL.SaysX file fa fn ts ex xd w K h) (c : He.SaysD fa fn K) {fd : FuncData} (F : FunD K "_law_nexts" "_law_nexts" (defArgs s__law_nexts) (defBody s__law_nexts) (defScope s__law_nexts) [] [] (He.fAd K (("_law_nexts" : Str), none)) fd) : DefIn B K mg tab "_law_nexts" 15 where
  N := N__law_nexts
  params := _
  body := _
  scope := _
  fn := f__law_nexts
  dvs := _
  ad := _
  fd := _
  htab := rfl
  hslots := rfl
  hpars := rfl
  hsc := z__law_nexts
  hck := c__law_nexts
  hlam := fun z => absurd z (by decide)
  hmg := He.glo_ok X G (c.fact 15 (f := .glo "_law_nexts") rfl)
  hF := F
  hd := hd0 F fun _ _ _ _ _ _ us hl => match us, hl with | [_, _, _, _], _ => rfl
  hk := all_nil
def D__law_drawn_house {w : World} (X : K.In h) (G : h.Ns mainGlobals mg) (cx : DL.SaysX file fa fn ts ex xd w K h) (c : He.SaysD fa fn K) {fd : FuncData} (F : FunD K "_law_drawn_house" "_law_drawn_house" (defArgs s__law_drawn_house) (defBody s__law_drawn_house) (defScope s__law_drawn_house) [] [] (He.fAd K (("_law_drawn_house" : Str), none)) fd) : DefIn B K mg tab "_law_drawn_house" 16 where
  N := N__law_drawn_house
  params := _
  body := _
  scope := _
  fn := f__law_drawn_house
  dvs := _
  ad := _
  fd := _
  htab := rfl
  hslots := rfl
  hpars := rfl
  hsc := z__law_drawn_house
  hck := c__law_drawn_house
  hlam := fun z => absurd z (by decide)
  hmg := He.glo_ok X G (c.fact 16 (f := .glo "_law_drawn_house") rfl)
  hF := F
  hd := hd0 F fun _ _ _ _ _ _ us hl => match us, hl with | [_, _, _, _], _ => rfl
  hk := all_nil
def D__law_any_stand {w : World} (X : K.In h) (G : h.Ns mainGlobals mg) (cx : DL.SaysX file fa fn ts ex xd w K h) (c : He.SaysD fa fn K) {fd : FuncData} (F : FunD K "_law_any_stand" "_law_any_stand" (defArgs s__law_any_stand) (defBody s__law_any_stand) (defScope s__law_any_stand) [] [] (He.fAd K (("_law_any_stand" : Str), none)) fd) : DefIn B K mg tab "_law_any_stand" 17 where
  N := N__law_any_stand
  params := _
  body := _
  scope := _
  fn := f__law_any_stand
  dvs := _
  ad := _
  fd := _
  htab := rfl
  hslots := rfl
  hpars := rfl
  hsc := z__law_any_stand
  hck := c__law_any_stand
  hlam := fun z => absurd z (by decide)
  hmg := He.glo_ok X G (c.fact 17 (f := .glo "_law_any_stand") rfl)
  hF := F
  hd := hd0 F fun _ _ _ _ _ _ us hl => match us, hl with | [_, _, _], _ => rfl
  hk := all_nil
def D__law_nexts_near {w : World} (X : K.In h) (G : h.Ns mainGlobals mg) (cx : DL.SaysX file fa fn ts ex xd w K h) (c : He.SaysD fa fn K) {fd : FuncData} (F : FunD K "_law_nexts_near" "_law_nexts_near" (defArgs s__law_nexts_near) (defBody s__law_nexts_near) (defScope s__law_nexts_near) [] [] (He.fAd K (("_law_nexts_near" : Str), none)) fd) : DefIn B K mg tab "_law_nexts_near" 18 where
  N := N__law_nexts_near
  params := _
  body := _
  scope := _
  fn := f__law_nexts_near
  dvs := _
  ad := _
  fd := _
  htab := rfl
  hslots := rfl
  hpars := rfl
  hsc := z__law_nexts_near
  hck := c__law_nexts_near
  hlam := fun z => absurd z (by decide)
  hmg := He.glo_ok X G (c.fact 18 (f := .glo "_law_nexts_near") rfl)
  hF := F
  hd := hd0 F fun _ _ _ _ _ _ us hl => match us, hl with | [_, _, _, _], _ => rfl
  hk := all_nil
def D__law_new_book {w : World} (X : K.In h) (G : h.Ns mainGlobals mg) (cx : DL.SaysX file fa fn ts ex xd w K h) (c : He.SaysD fa fn K) {fd : FuncData} (F : FunD K "_law_new_book" "_law_new_book" (defArgs s__law_new_book) (defBody s__law_new_book) (defScope s__law_new_book) [] [] (He.fAd K (("_law_new_book" : Str), none)) fd) : DefIn B K mg tab "_law_new_book" 19 where
  N := N__law_new_book
  params := _
  body := _
  scope := _
  fn := f__law_new_book
  dvs := _
  ad := _
  fd := _
  htab := rfl
  hslots := rfl
  hpars := rfl
  hsc := z__law_new_book
  hck := c__law_new_book
  hlam := fun z => absurd z (by decide)
  hmg := He.glo_ok X G (c.fact 19 (f := .glo "_law_new_book") rfl)
  hF := F
  hd := hd0 F fun _ _ _ _ _ _ us hl => match us, hl with | [_, _, _], _ => rfl
  hk := all_nil
def D__law_same_book {w : World} (X : K.In h) (G : h.Ns mainGlobals mg) (cx : DL.SaysX file fa fn ts ex xd w K h) (c : He.SaysD fa fn K) {fd : FuncData} (F : FunD K "_law_same_book" "_law_same_book" (defArgs s__law_same_book) (defBody s__law_same_book) (defScope s__law_same_book) [] [] (He.fAd K (("_law_same_book" : Str), none)) fd) : DefIn B K mg tab "_law_same_book" 20 where
  N := N__law_same_book
  params := _
  body := _
  scope := _
  fn := f__law_same_book
  dvs := _
  ad := _
  fd := _
  htab := rfl
  hslots := rfl
  hpars := rfl
  hsc := z__law_same_book
  hck := c__law_same_book
  hlam := fun z => absurd z (by decide)
  hmg := He.glo_ok X G (c.fact 20 (f := .glo "_law_same_book") rfl)
  hF := F
  hd := hd0 F fun _ _ _ _ _ _ us hl => match us, hl with | [_, _], _ => rfl
  hk := all_nil
def D__law_turned {w : World} (X : K.In h) (G : h.Ns mainGlobals mg) (cx : DL.SaysX file fa fn ts ex xd w K h) (c : He.SaysD fa fn K) {fd : FuncData} (F : FunD K "_law_turned" "_law_turned" (defArgs s__law_turned) (defBody s__law_turned) (defScope s__law_turned) [] [] (He.fAd K (("_law_turned" : Str), none)) fd) : DefIn B K mg tab "_law_turned" 21 where
  N := N__law_turned
  params := _
  body := _
  scope := _
  fn := f__law_turned
  dvs := _
  ad := _
  fd := _
  htab := rfl
  hslots := rfl
  hpars := rfl
  hsc := z__law_turned
  hck := c__law_turned
  hlam := fun z => absurd z (by decide)
  hmg := He.glo_ok X G (c.fact 21 (f := .glo "_law_turned") rfl)
  hF := F
  hd := hd0 F fun _ _ _ _ _ _ us hl => match us, hl with | [_, _, _, _], _ => rfl
  hk := all_nil
def D__law_due_stand {w : World} (X : K.In h) (G : h.Ns mainGlobals mg) (cx : DL.SaysX file fa fn ts ex xd w K h) (c : He.SaysD fa fn K) {fd : FuncData} (F : FunD K "_law_due_stand" "_law_due_stand" (defArgs s__law_due_stand) (defBody s__law_due_stand) (defScope s__law_due_stand) [] [] (He.fAd K (("_law_due_stand" : Str), none)) fd) : DefIn B K mg tab "_law_due_stand" 22 where
  N := N__law_due_stand
  params := _
  body := _
  scope := _
  fn := f__law_due_stand
  dvs := _
  ad := _
  fd := _
  htab := rfl
  hslots := rfl
  hpars := rfl
  hsc := z__law_due_stand
  hck := c__law_due_stand
  hlam := fun z => absurd z (by decide)
  hmg := He.glo_ok X G (c.fact 22 (f := .glo "_law_due_stand") rfl)
  hF := F
  hd := hd0 F fun _ _ _ _ _ _ us hl => match us, hl with | [_, _, _], _ => rfl
  hk := all_nil
def D__law_may {w : World} (X : K.In h) (G : h.Ns mainGlobals mg) (cx : DL.SaysX file fa fn ts ex xd w K h) (c : He.SaysD fa fn K) {fd : FuncData} (F : FunD K "_law_may" "_law_may" (defArgs s__law_may) (defBody s__law_may) (defScope s__law_may) [] [] (He.fAd K (("_law_may" : Str), none)) fd) : DefIn B K mg tab "_law_may" 23 where
  N := N__law_may
  params := _
  body := _
  scope := _
  fn := f__law_may
  dvs := _
  ad := _
  fd := _
  htab := rfl
  hslots := rfl
  hpars := rfl
  hsc := z__law_may
  hck := c__law_may
  hlam := fun z => absurd z (by decide)
  hmg := He.glo_ok X G (c.fact 23 (f := .glo "_law_may") rfl)
  hF := F
  hd := hd0 F fun _ _ _ _ _ _ us hl => match us, hl with | [_, _, _, _], _ => rfl
  hk := all_nil
def D__law_some_house {w : World} (X : K.In h) (G : h.Ns mainGlobals mg) (cx : DL.SaysX file fa fn ts ex xd w K h) (c : He.SaysD fa fn K) {fd : FuncData} (F : FunD K "_law_some_house" "_law_some_house" (defArgs s__law_some_house) (defBody s__law_some_house) (defScope s__law_some_house) [] [] (He.fAd K (("_law_some_house" : Str), none)) fd) : DefIn B K mg tab "_law_some_house" 24 where
  N := N__law_some_house
  params := _
  body := _
  scope := _
  fn := f__law_some_house
  dvs := _
  ad := _
  fd := _
  htab := rfl
  hslots := rfl
  hpars := rfl
  hsc := z__law_some_house
  hck := c__law_some_house
  hlam := fun z => absurd z (by decide)
  hmg := He.glo_ok X G (c.fact 24 (f := .glo "_law_some_house") rfl)
  hF := F
  hd := hd0 F fun _ _ _ _ _ _ us hl => match us, hl with | [_], _ => rfl
  hk := all_nil
def D__law_typed {w : World} (X : K.In h) (G : h.Ns mainGlobals mg) (cx : DL.SaysX file fa fn ts ex xd w K h) (c : He.SaysD fa fn K) {fd : FuncData} (F : FunD K "_law_typed" "_law_typed" (defArgs s__law_typed) (defBody s__law_typed) (defScope s__law_typed) [] [] (He.fAd K (("_law_typed" : Str), none)) fd) : DefIn B K mg tab "_law_typed" 25 where
  N := N__law_typed
  params := _
  body := _
  scope := _
  fn := f__law_typed
  dvs := _
  ad := _
  fd := _
  htab := rfl
  hslots := rfl
  hpars := rfl
  hsc := z__law_typed
  hck := c__law_typed
  hlam := fun z => absurd z (by decide)
  hmg := He.glo_ok X G (c.fact 25 (f := .glo "_law_typed") rfl)
  hF := F
  hd := hd0 F fun _ _ _ _ _ _ us hl => match us, hl with | [], _ => rfl
  hk := all_nil
def D__law_may_right {w : World} (X : K.In h) (G : h.Ns mainGlobals mg) (cx : DL.SaysX file fa fn ts ex xd w K h) (c : He.SaysD fa fn K) {fd : FuncData} (F : FunD K "_law_may_right" "_law_may_right" (defArgs s__law_may_right) (defBody s__law_may_right) (defScope s__law_may_right) [] [] (He.fAd K (("_law_may_right" : Str), none)) fd) : DefIn B K mg tab "_law_may_right" 26 where
  N := N__law_may_right
  params := _
  body := _
  scope := _
  fn := f__law_may_right
  dvs := _
  ad := _
  fd := _
  htab := rfl
  hslots := rfl
  hpars := rfl
  hsc := z__law_may_right
  hck := c__law_may_right
  hlam := fun z => absurd z (by decide)
  hmg := He.glo_ok X G (c.fact 26 (f := .glo "_law_may_right") rfl)
  hF := F
  hd := hd0 F fun _ _ _ _ _ _ us hl => match us, hl with | [_, _, _, _], _ => rfl
  hk := all_nil
def D_law {w : World} (X : K.In h) (G : h.Ns mainGlobals mg) (cx : DL.SaysX file fa fn ts ex xd w K h) (c : He.SaysD fa fn K) {fd : FuncData} (F : FunD K "law" "law" (defArgs s_law) (defBody s_law) (defScope s_law) [] [] (He.fAd K (("law" : Str), none)) fd) : DefIn B K mg tab "law" 27 where
  N := N_law
  params := _
  body := _
  scope := _
  fn := f_law
  dvs := _
  ad := _
  fd := _
  htab := rfl
  hslots := rfl
  hpars := rfl
  hsc := z_law
  hck := c_law
  hlam := fun z => absurd z (by decide)
  hmg := He.glo_ok X G (c.fact 27 (f := .glo "law") rfl)
  hF := F
  hd := hd0 F fun _ _ _ _ _ _ us hl => match us, hl with | [_], _ => rfl
  hk := all_nil
theorem modIn {w : World} (X : K.In h) (G : h.Ns mainGlobals mg) (cx : DL.SaysX file fa fn ts ex xd w K h) : ModIn B w K mg tab := by
  have c : He.SaysD fa fn K := cx.t.d
  refine ModIn.of ?_ (tab_pars (by decide +kernel)) ?_ ?_ ?_
  · exact (all_cons (let ⟨_, F⟩ := c.def_ 0 (d := d_wanted_place) rfl; ⟨D_wanted_place X G cx c F⟩) (all_cons (let ⟨_, F⟩ := c.def_ 1 (d := d_has_room) rfl; ⟨D_has_room X G cx c F⟩) (all_cons (let ⟨_, F⟩ := c.def_ 2 (d := d_are_held) rfl; ⟨D_are_held X G cx c F⟩) (all_cons (let ⟨_, F⟩ := c.def_ 3 (d := d_stuck_lot) rfl; ⟨D_stuck_lot X G cx c F⟩) (all_cons (let ⟨_, F⟩ := c.def_ 4 (d := d_turned_guest) rfl; ⟨D_turned_guest X G cx c F⟩) (all_cons (let ⟨_, F⟩ := c.def_ 5 (d := d_changed_stand) rfl; ⟨D_changed_stand X G cx c F⟩) (all_cons (let ⟨_, F⟩ := c.def_ 6 (d := d_may_change) rfl; ⟨D_may_change X G cx c F⟩) (all_cons (let ⟨_, F⟩ := c.def_ 7 (d := d__law_box) rfl; ⟨D__law_box X G cx c F⟩) (all_cons (let ⟨_, F⟩ := c.def_ 8 (d := d__law_take) rfl; ⟨D__law_take X G cx c F⟩) (all_cons (let ⟨_, F⟩ := c.def_ 9 (d := d__law_pick) rfl; ⟨D__law_pick X G cx c F⟩) (all_cons (let ⟨_, F⟩ := c.def_ 10 (d := d__law_shuffled) rfl; ⟨D__law_shuffled X G cx c F⟩) (all_cons (let ⟨_, F⟩ := c.def_ 11 (d := d__law_same) rfl; ⟨D__law_same X G cx c F⟩) (all_cons (let ⟨_, F⟩ := c.def_ 12 (d := d__law_want) rfl; ⟨D__law_want X G cx c F⟩) (all_cons (let ⟨_, F⟩ := c.def_ 13 (d := d__law_stuck) rfl; ⟨D__law_stuck X G cx c F⟩) (all_cons (let ⟨_, F⟩ := c.def_ 14 (d := d__law_kinds) rfl; ⟨D__law_kinds X G cx c F⟩) (all_cons (let ⟨_, F⟩ := c.def_ 15 (d := d__law_nexts) rfl; ⟨D__law_nexts X G cx c F⟩) (all_cons (let ⟨_, F⟩ := c.def_ 16 (d := d__law_drawn_house) rfl; ⟨D__law_drawn_house X G cx c F⟩) (all_cons (let ⟨_, F⟩ := c.def_ 17 (d := d__law_any_stand) rfl; ⟨D__law_any_stand X G cx c F⟩) (all_cons (let ⟨_, F⟩ := c.def_ 18 (d := d__law_nexts_near) rfl; ⟨D__law_nexts_near X G cx c F⟩) (all_cons (let ⟨_, F⟩ := c.def_ 19 (d := d__law_new_book) rfl; ⟨D__law_new_book X G cx c F⟩) (all_cons (let ⟨_, F⟩ := c.def_ 20 (d := d__law_same_book) rfl; ⟨D__law_same_book X G cx c F⟩) (all_cons (let ⟨_, F⟩ := c.def_ 21 (d := d__law_turned) rfl; ⟨D__law_turned X G cx c F⟩) (all_cons (let ⟨_, F⟩ := c.def_ 22 (d := d__law_due_stand) rfl; ⟨D__law_due_stand X G cx c F⟩) (all_cons (let ⟨_, F⟩ := c.def_ 23 (d := d__law_may) rfl; ⟨D__law_may X G cx c F⟩) (all_cons (let ⟨_, F⟩ := c.def_ 24 (d := d__law_some_house) rfl; ⟨D__law_some_house X G cx c F⟩) (all_cons (let ⟨_, F⟩ := c.def_ 25 (d := d__law_typed) rfl; ⟨D__law_typed X G cx c F⟩) (all_cons (let ⟨_, F⟩ := c.def_ 26 (d := d__law_may_right) rfl; ⟨D__law_may_right X G cx c F⟩) (all_cons (let ⟨_, F⟩ := c.def_ 27 (d := d_law) rfl; ⟨D_law X G cx c F⟩) all_nil))))))))))))))))))))))))))))
  · exact (all_cons (cst_int X G (c.fact 28 (f := .int "OUT" (-1)) rfl)) all_nil)
  · exact (all_cons (He.free_ok X G (c.fact 29 (f := .free "abs") rfl)) (all_cons (He.free_ok X G (c.fact 30 (f := .free "all") rfl)) (all_cons (He.free_ok X G (c.fact 31 (f := .free "bool") rfl)) (all_cons (He.free_ok X G (c.fact 32 (f := .free "enumerate") rfl)) (all_cons (He.free_ok X G (c.fact 33 (f := .free "int") rfl)) (all_cons (He.free_ok X G (c.fact 34 (f := .free "isinstance") rfl)) (all_cons (He.free_ok X G (c.fact 35 (f := .free "len") rfl)) (all_cons (He.free_ok X G (c.fact 36 (f := .free "list") rfl)) (all_cons (He.free_ok X G (c.fact 37 (f := .free "max") rfl)) (all_cons (He.free_ok X G (c.fact 38 (f := .free "min") rfl)) (all_cons (He.free_ok X G (c.fact 39 (f := .free "range") rfl)) (all_cons (He.free_ok X G (c.fact 40 (f := .free "set") rfl)) (all_cons (He.free_ok X G (c.fact 41 (f := .free "sorted") rfl)) (all_cons (He.free_ok X G (c.fact 42 (f := .free "str") rfl)) (all_cons (He.free_ok X G (c.fact 43 (f := .free "super") rfl)) (all_cons (He.free_ok X G (c.fact 44 (f := .free "tuple") rfl)) (all_cons (He.free_ok X G (c.fact 45 (f := .free "zip") rfl)) all_nil)))))))))))))))))
  · exact all_nil
theorem exIn {w : World} (X : K.In h) (G : h.Ns mainGlobals mg) (cx : DL.SaysX file fa fn ts ex xd w K h) : ∃ T, ExIn B T RowX.prog K mg := by
  have c : He.SaysD fa fn K := cx.t.d
  exact DL.exIn cx X G rfl (all_cons t_BadStand all_nil) (fun _ => He.free_ok X G (c.fact 43 (f := .free "super") rfl)) (fun _ => by decide +kernel) (by decide +kernel) (by decide +kernel) rfl (by decide +kernel) rfl all_nil
end
abbrev hk : PySem.W.Hook := DL.hookX 4 file fa fn ts ex xd
def ob (s : PySem.W.SharedT) : DL.AlX := DL.obsXG 4 file fa fn ts ex xd (HandSHeadRun.getT s)
theorem ob_eq (s : PySem.W.SharedT) : ob s = hk.obs s.abs := DL.obsXG_eq (HandSHeadRun.getT_eq s)
def loose : List Str := (["OwnError", "BadStand", "OUT", "wanted_place", "has_room", "are_held", "stuck_lot", "turned_guest", "changed_stand", "may_change", "_law_box", "_law_take", "_law_pick", "_law_shuffled", "_law_same", "_law_want", "_law_stuck", "_law_kinds", "_law_nexts", "_law_drawn_house", "_law_any_stand", "_law_nexts_near", "_law_new_book", "_law_same_book", "_law_turned", "_law_due_stand", "_law_may", "_law_some_house", "_law_typed", "_law_may_right"] : List Str)
theorem run (w : World) : HandSHeadRun.RunEq RowX (PySem.W.view RowX.prog [35]) hk ob 4000 loose w := by
  intro os
  kernel_rfl
end Lw
open PySem PySem.W PySem.Calls PyProof.Rows
set_option maxHeartbeats 0 in
theorem PySem.Challenge.cw_lookonce_k78_may_the_new_book_come_holds : PySem.Challenge.rw_lookonce_k78_may_the_new_book_come.Holds := by
  w_on; o_law
  refine HandSHeadRun.head_any (r := OpenLaw.row PySem.Challenge.rw_lookonce_k78_may_the_new_book_come) (q := view (OpenLaw.row PySem.Challenge.rw_lookonce_k78_may_the_new_book_come).prog [35]) (H := Lw.hk) (ob := Lw.ob) (M := 4000) (loose := Lw.loose) (d := HandSHeadRun.topDef (OpenLaw.row PySem.Challenge.rw_lookonce_k78_may_the_new_book_come).prog 35) (kwd := []) Lw.ob_eq
    (by kernel_rfl) (fun s => by kernel_rfl) Lw.run (by kernel_rfl) (by kernel_rfl) (by kernel_rfl) (by rfl) (by first | assumption | decide +kernel) (by decide +kernel) ⟨rfl, rfl, rfl, rfl, rfl, by decide +kernel⟩ ?hw ?hc
  case hw => w_witness2
  case hc =>
    refine DL.walk_dl (l := PySem.Challenge.rw_lookonce_k78_may_the_new_book_come) (n := 40) (B := Lw.B) (tab := Lw.tab) (fl := 27) (lx := ("law" : Str)) (x := ("script" : Str)) rfl (by kernel_rfl) (by kernel_rfl) ⟨rfl, by decide, by decide⟩ rfl ?F Lw.plain
    intro w mg h Y G
    obtain ⟨K, KX, c⟩ := Y
    obtain ⟨_, F⟩ := He.SaysD.def_ c.t.d 27 (d := Lw.d_law) rfl
    exact ⟨K, KX, Lw.modIn KX G c, Lw.exIn KX G c, c.tb, Lw.D_law KX G c c.t.d F, fun s u => L2.FunD.bindsA (ps := [("script" : Str)]) F (fun _ _ _ _ _ _ us hl => match us, hl with | [_], _ => rfl) s [u] rfl⟩

