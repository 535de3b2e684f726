import PyProof.Rows.All
import Wide.All
import OpenK.AllK
import Wide.FinOn
import HandS.ForMost
import HandS.ForExc
import KE.DataEq
import KE.DataIsa
import KE.SortData
import HandS.StrMore
import KE.KDictKeyed
import HandS.Iter
import KE.KDictWalk
import KE.KDictCopyH
import HandS.Lambda
import HandS.TupAny
import HandS.TupMul
import HandS.Wide
import PyProof.StrBlock2
import HandS.Text
import KE.LtData
import HandS.IsInst
import KE.DataMinMax
import HandS.TryOnly
import HandS.Style
import KE.KDictDisplayH
import HandS.Zip
import HandS.HotCalls
import HandS.Comp
import HandS.ExcIs
import HandS.ExcCtx
import HandS.HeadHook2
import HandS.CallLocal
import HandS.FStr
import HandS.Replace
import KE.GoesEnum
import KE.KDictZip
import KE.GoesMore
import HandS.Head0
import HandS.Head1
import HandS.Head2
import HandS.HeadEnd
import HandS.HeadHook1
import HandS.EndTab
import PySem.Challenge.RW_facingtexts_k03_texts_that_are_laid

section
set_option Elab.async false
set_option linter.all false
set_option maxRecDepth 100000
/-! FA: the small syntax, its meaning over data. No heap, no program. -/
namespace FF
open PySem PySem.Spec PyProof.Rows L2 PySem.W

abbrev D := PyData

/-! ### equality of data to the sign -/
mutual
def dEq : D → D → Bool
  | .none, .none => true
  | .bool a, .bool b => a == b
  | .int i, .int j => decide (i = j)
  | .str x, .str y => decide (x = y)
  | .list xs, .list ys => dEqs xs ys
  | .tuple xs, .tuple ys => dEqs xs ys
  | .dict xs, .dict ys => dEqk xs ys
  | _, _ => false
def dEqs : List D → List D → Bool
  | [], [] => true
  | x :: xs, y :: ys => dEq x y && dEqs xs ys
  | _, _ => false
def dEqk : List (D × D) → List (D × D) → Bool
  | [], [] => true
  | (x, u) :: xs, (y, v) :: ys => dEq x y && dEq u v && dEqk xs ys
  | _, _ => false
end
mutual
theorem dEq_eq : ∀ a b : D, dEq a b = true → a = b
  | .none, b, h => by cases b <;> simp [dEq] at h <;> rfl
  | .bool x, b, h => by cases b <;> simp [dEq] at h; rw [h]
  | .int x, b, h => by cases b <;> simp [dEq] at h; rw [h]
  | .str x, b, h => by cases b <;> simp [dEq] at h; rw [h]
  | .list xs, b, h => by cases b <;> simp [dEq] at h; rw [dEqs_eq _ _ h]
  | .tuple xs, b, h => by cases b <;> simp [dEq] at h; rw [dEqs_eq _ _ h]
  | .dict xs, b, h => by cases b <;> simp [dEq] at h; rw [dEqk_eq _ _ h]
theorem dEqs_eq : ∀ a b : List D, dEqs a b = true → a = b
  | [], b, h => by cases b <;> simp [dEqs] at h; rfl
  | x :: xs, b, h => by
    cases b with
    | nil => simp [dEqs] at h
    | cons y ys =>
      simp only [dEqs, Bool.and_eq_true] at h
      rw [dEq_eq _ _ h.1, dEqs_eq _ _ h.2]
theorem dEqk_eq : ∀ a b : List (D × D), dEqk a b = true → a = b
  | [], b, h => by cases b <;> simp [dEqk] at h; rfl
  | (x, u) :: xs, b, h => by
    cases b with
    | nil => simp [dEqk] at h
    | cons y ys =>
      obtain ⟨y, v⟩ := y
      simp only [dEqk, Bool.and_eq_true] at h
      rw [dEq_eq _ _ h.1.1, dEq_eq _ _ h.1.2, dEqk_eq _ _ h.2]
end
mutual
theorem dEq_refl : ∀ a : D, dEq a a = true
  | .none => rfl
  | .bool x => by simp [dEq]
  | .int x => by simp [dEq]
  | .str x => by simp [dEq]
  | .list xs => by simp [dEq, dEqs_refl xs]
  | .tuple xs => by simp [dEq, dEqs_refl xs]
  | .dict xs => by simp [dEq, dEqk_refl xs]
theorem dEqs_refl : ∀ a : List D, dEqs a a = true
  | [] => rfl
  | x :: xs => by simp [dEqs, dEq_refl x, dEqs_refl xs]
theorem dEqk_refl : ∀ a : List (D × D), dEqk a a = true
  | [] => rfl
  | (x, u) :: xs => by simp [dEqk, dEq_refl x, dEq_refl u, dEqk_refl xs]
end

/-! ### slots, outcomes -/
inductive W where
  | un
  | d (x : D)
  | ol (xs : List D)
  | od (kvs : List (D × D))
  | ll (xs : List D)
  | ld (kvs : List (D × D))
  | fn (f : Nat)
/-- does the slot own an object that may change (ll, ld: owned, but locked while it is walked) -/
def W.own : W → Bool
  | .ol _ => true
  | .od _ => true
  | _ => false
/-- owned, locked or not -/
@[simp] def W.hold : W → Bool
  | .ol _ => true
  | .od _ => true
  | .ll _ => true
  | .ld _ => true
  | _ => false
def wEq : W → W → Bool
  | .un, .un => true
  | .d x, .d y => dEq x y
  | .ol xs, .ol ys => dEqs xs ys
  | .od xs, .od ys => dEqk xs ys
  | .ll xs, .ll ys => dEqs xs ys
  | .ld xs, .ld ys => dEqk xs ys
  | .fn f, .fn g => f == g
  | _, _ => false
abbrev Sl := List W
inductive O (α : Type) where
  | ok (a : α) (ρ : Sl)
  | ex (c : Nat) (ρ : Sl)
  | bad
abbrev M (α : Type) := Sl → O α
def O.bind {α β : Type} (x : O α) (f : α → Sl → O β) : O β :=
  match x with
  | .ok a ρ => f a ρ
  | .ex c ρ => .ex c ρ
  | .bad => .bad
/-- what a call hands back: the value, and what the arguments' objects hold then -/
inductive R where
  | ok (w : W) (outs : List W)
  | ex (c : Nat)
  | bad
abbrev FunD := List W → R
/-- operands: data, a slot that owns an object, a def -/
inductive A where
  | v (x : D)
  | s (i : Nat)
  | f (f : Nat)

@[simp] def W.data : W → Option D
  | .d x => some x
  | .ol xs => some (.list xs)
  | .od kvs => some (.dict kvs)
  | .ll xs => some (.list xs)
  | .ld kvs => some (.dict kvs)
  | _ => none
def A.at (a : A) (ρ : Sl) : Option D :=
  match a with
  | .v x => some x
  | .s i => (ρ[i]?).bind W.data
  | .f _ => none

/-! ### operations on data -/
inductive Bop | add | sub | mul | fdiv | mod | pow
  deriving DecidableEq
inductive Cop | eq | ne | lt | le | gt | ge | isIn | notIn | isN | notN
  deriving DecidableEq
inductive Ty | int | bool | str | tuple | list | tupleList
  deriving DecidableEq
inductive Bi
  | len | abs | int | str | sum | max | min | tuple | list | dict | all | any | sorted | sortedSet
  deriving DecidableEq
inductive Mt
  | extend | pop | popAt | get | setdefault | update | join | split | index | upper
  deriving DecidableEq

def tru : D → Bool
  | .none => false
  | .bool b => b
  | .int i => i != 0
  | .str x => x.length != 0
  | .list xs => !xs.isEmpty
  | .tuple xs => !xs.isEmpty
  | .dict kvs => !kvs.isEmpty

/-- truth, where it is carried -/
def truO : D → Option Bool
  | .str x => if x.length ≤ sizeLine then some (x.length != 0) else none
  | .dict _ => none
  | x => some (tru x)
/-- a product that the machine makes -/
def mulOk (i j : Int) : Bool := (decide (-(2 ^ 64) < i) && decide (i < 2 ^ 64)) || (decide (-(2 ^ 64) < j) && decide (j < 2 ^ 64)) || decide (i.natAbs.log2 + j.natAbs.log2 < 1000000)
def repStr (x : Str) (n : Nat) : Str := ⟨(List.replicate n x.cps.toList).flatten.toArray⟩

def binW : Bop → D → D → Option W
  | .add, .int i, .int j => some (.d (.int (i + j)))
  | .add, .str x, .str y => if x.length + y.length ≤ sizeLine then some (.d (.str (x ++ y))) else none
  | .add, .tuple x, .tuple y => if x.length + y.length ≤ sizeLine then some (.d (.tuple (x ++ y))) else none
  | .add, .list x, .list y => if x.length + y.length ≤ sizeLine then some (.ol (x ++ y)) else none
  | .sub, .int i, .int j => some (.d (.int (i - j)))
  | .mul, .int i, .int j => if mulOk i j then some (.d (.int (i * j))) else none
  | .mul, .str x, .int j => if x.length ≤ 1000 ∧ 0 ≤ j ∧ j ≤ 1000 then some (.d (.str (repStr x j.toNat))) else none
  | .mul, .list x, .int j => if -(2 ^ 63) ≤ j ∧ j < 2 ^ 63 ∧ x.length * j.toNat ≤ sizeLine then some (.ol (List.replicate j.toNat x).flatten) else none
  | .mul, .tuple x, .int j => if x ≠ [] ∧ 2 ≤ j ∧ j ≤ 1000 ∧ x.length ≤ 1000 then some (.d (.tuple (List.replicate j.toNat x).flatten)) else none
  | .fdiv, .int i, .int j => if j ≠ 0 ∧ j.natAbs < 1073741824 then some (.d (.int (i.fdiv j))) else none
  | .mod, .int i, .int j => if j ≠ 0 then some (.d (.int (i.fmod j))) else none
  | .pow, .int i, .int j => if 0 ≤ j ∧ j ≤ 1000 ∧ i.natAbs < 2 ^ 60 then some (.d (.int (i ^ j.toNat))) else none
  | _, _, _ => none

/-- what == may be asked of -/
def eqOk (a : D) : Bool := a.plain && decide (a.depth ≤ 60)
def nkey : D → Option NestedKey
  | .none => some .none
  | .bool b => some (.num (if b then 1 else 0))
  | .int i => some (.num i)
  | .str x => some (.text x)
  | .tuple xs => (nkeys xs).map .tup
  | _ => none
where nkeys : List D → Option (List NestedKey)
  | [] => some []
  | x :: xs => match nkey x, nkeys xs with
    | some k, some ks => some (k :: ks)
    | _, _ => none
def keyOk (a : D) : Bool := match nkey a with
  | some k => decide (k.depth ≤ 8)
  | none => false
def sameKey (a b : D) : Bool := match nkey a, nkey b with
  | some k, some l => decide (k = l)
  | _, _ => false
def dGet (kvs : List (D × D)) (k : D) : Option D := (kvs.find? fun kv => sameKey kv.1 k).map (·.2)
def dPut (kvs : List (D × D)) (k v : D) : List (D × D) :=
  if (kvs.any fun kv => sameKey kv.1 k) then kvs.map fun kv => if sameKey kv.1 k then (kv.1, v) else kv else kvs ++ [(k, v)]
/-- a key that is a tuple (no other keys are carried) -/
def isTup : D → Bool
  | .tuple _ => true
  | _ => false
def dictOk (kvs : List (D × D)) (k : D) : Bool := keyOk k && isTup k && decide (kvs.length < sizeLine)

def cmpD : Cop → D → D → Option Bool
  | .eq, a, b => if eqOk a && eqOk b then some (PyData.eqv a b) else none
  | .ne, a, b => if eqOk a && eqOk b then some (!PyData.eqv a b) else none
  | .lt, .int i, .int j => some (decide (i < j))
  | .lt, .str x, .str y => some (decide (x.cps.toList < y.cps.toList))
  | .lt, .tuple x, .tuple y => if PySem.W.alike (.tuple x) (.tuple y) && decide (PyData.depth (.tuple x) ≤ 60) && PyData.plain (.tuple x) && PyData.plain (.tuple y) then some (PySem.W.dataLt (.tuple x) (.tuple y)) else none
  | .le, .int i, .int j => some (decide (i ≤ j))
  | .gt, .int i, .int j => some (decide (j < i))
  | .ge, .int i, .int j => some (decide (j ≤ i))
  | .isIn, a, .list xs => if eqOk a && eqOk (.list xs) then some (xs.any fun z => PyData.eqv z a) else none
  | .isIn, a, .tuple xs => if eqOk a && eqOk (.tuple xs) then some (xs.any fun z => PyData.eqv z a) else none
  | .isIn, .str c, .str z => if c.length = 1 then some (c.cps.toList.all fun a => z.cps.toList.contains a) else none
  | .isIn, k, .dict kvs => if dictOk kvs k then some (dGet kvs k).isSome else none
  | .notIn, a, .list xs => if eqOk a && eqOk (.list xs) then some (!(xs.any fun z => PyData.eqv z a)) else none
  | .notIn, a, .tuple xs => if eqOk a && eqOk (.tuple xs) then some (!(xs.any fun z => PyData.eqv z a)) else none
  | .notIn, .str c, .str z => if c.length = 1 then some (!(c.cps.toList.all fun a => z.cps.toList.contains a)) else none
  | .notIn, k, .dict kvs => if dictOk kvs k then some (!(dGet kvs k).isSome) else none
  | .isN, .none, .none => some true
  | .isN, _, .none => some false
  | .notN, .none, .none => some false
  | .notN, _, .none => some true
  | _, _, _ => none

@[simp] def isTy : Ty → D → Bool
  | .int, .int _ => true
  | .int, .bool _ => true
  | .bool, .bool _ => true
  | .str, .str _ => true
  | .tuple, .tuple _ => true
  | .list, .list _ => true
  | .tupleList, .tuple _ => true
  | .tupleList, .list _ => true
  | _, _ => false

def intsD : List D → Option (List Int)
  | [] => some []
  | .int i :: xs => (intsD xs).map (i :: ·)
  | _ :: _ => none
/-- isinstance -/
def isiW (t : Ty) (x : D) : Option W := if x.plain then some (.d (.bool (isTy t x))) else none
def boolsD : List D → Option (List Bool)
  | [] => some []
  | .bool i :: xs => (boolsD xs).map (i :: ·)
  | _ :: _ => none
def strsD : List D → Option (List Str)
  | [] => some []
  | .str i :: xs => (strsD xs).map (i :: ·)
  | _ :: _ => none
def pairsD : List D → Option (List (D × D))
  | [] => some []
  | .tuple [k, v] :: xs => (pairsD xs).map ((k, v) :: ·)
  | _ :: _ => none
def maxI (x : Int) (xs : List Int) : Int := xs.foldl (fun m y => if m < y then y else m) x
def minI (x : Int) (xs : List Int) : Int := xs.foldl (fun m y => if y < m then y else m) x
/-- may be sorted: any two can be compared -/
def sortOk (xs : List D) : Bool := (xs.all fun x => xs.all fun y => PySem.W.alike x y) && decide (xs.length ≤ sizeLine) && (xs.all fun x => decide (x.depth ≤ 60) && x.plain) &&
  ((xs.all fun x => match x with | .tuple (_ :: _) => true | _ => false) || (xs.all fun x => match x with | .tuple _ => false | .none => false | _ => true))
def sortD (xs : List D) : List D := xs.mergeSort fun a b => !PySem.W.dataLt b a
def dedup : List D → List D
  | [] => []
  | x :: xs => x :: (dedup xs).filter fun y => !sameKey y x
def putAll : List (D × D) → List (D × D) → Option (List (D × D))
  | acc, [] => some acc
  | acc, (k, v) :: r => if dictOk acc k then putAll (dPut acc k v) r else none
def strOfBool (b : Bool) : Str := if b then "True" else "False"

def biW : Bi → List D → Option W
  | .len, [.list xs] => some (.d (.int xs.length))
  | .len, [.tuple xs] => some (.d (.int xs.length))
  | .len, [.str x] => if x.length ≤ sizeLine then some (.d (.int x.length)) else none
  | .abs, [.int i] => some (.d (.int (if i < 0 then -i else i)))
  | .int, [.int i] => some (.d (.int i))
  | .int, [.bool b] => some (.d (.int (if b then 1 else 0)))
  | .int, [.str x] => match PySem.intText? x with
    | some n => if x.length ≤ 640 then some (.d (.int n)) else none
    | none => none
  | .str, [.int i] => if i.natAbs.log2 < 1920 then some (.d (.str (toString i))) else none
  | .sum, [.list xs] => (intsD xs).map fun ns => .d (.int ns.sum)
  | .max, [.list xs] => match intsD xs with
    | some (n :: ns) => some (.d (.int (maxI n ns)))
    | _ => none
  | .max, [.tuple xs] => match intsD xs with
    | some (n :: ns) => some (.d (.int (maxI n ns)))
    | _ => none
  | .max, [.int i, .int j] => some (.d (.int (if j > i then j else i)))
  | .min, [.list xs] => match intsD xs with
    | some (n :: ns) => some (.d (.int (minI n ns)))
    | _ => none
  | .min, [.tuple xs] => match intsD xs with
    | some (n :: ns) => some (.d (.int (minI n ns)))
    | _ => none
  | .min, [.int i, .int j] => some (.d (.int (if j < i then j else i)))
  | .tuple, [.list xs] => some (.d (.tuple xs))
  | .tuple, [.tuple xs] => some (.d (.tuple xs))
  | .list, [.list xs] => some (.ol xs)
  | .list, [.tuple xs] => some (.ol xs)
  | .all, [.list xs] => (boolsD xs).map fun bs => .d (.bool (bs.all id))
  | .any, [.list xs] => (boolsD xs).map fun bs => .d (.bool (bs.any id))
  | .sorted, [.list xs] => if sortOk xs then some (.ol (sortD xs)) else none
  | _, _ => none

/-- an index: 0 or more, or from behind -/
def ixOf (n : Nat) (i : Int) : Option Nat := L2.ixN n i
def idxD : D → D → Option D
  | .list xs, .int i => L2.atI xs i
  | .tuple xs, .int i => L2.atI xs i
  | .str z, .int i => if z.length ≤ sizeLine then (L2.atI z.cps.toList i).map fun c => .str ⟨#[c]⟩ else none
  | .dict kvs, k => if dictOk kvs k then dGet kvs k else none
  | _, _ => none
def cutD (xs : List D) (lo hi : Option Int) : List D := (xs.drop (HT.sIx xs.length 0 lo)).take (HT.sIx xs.length xs.length hi - HT.sIx xs.length 0 lo)
def slcW : D → Option Int → Option Int → Option W
  | .list xs, lo, hi => some (.ol (cutD xs lo hi))
  | .tuple xs, lo, hi => some (.d (.tuple (cutD xs lo hi)))
  | .str z, lo, hi => if z.length ≤ sizeLine then some (.d (.str (L2.cutS z lo hi))) else none
  | _, _, _ => none
def revW : D → Option W
  | .list xs => some (.ol xs.reverse)
  | .tuple xs => some (.d (.tuple xs.reverse))
  | _ => none

/-- a method that changes its object: what the object holds then, and the answer -/
def mtOwn : Mt → W → List D → Option (W × W)
  | .extend, .ol xs, [.list ys] => if xs.length + ys.length ≤ sizeLine then some (.ol (xs ++ ys), .d .none) else none
  | .pop, .ol xs, [] => (xs[xs.length - 1]?).map fun y => (.ol xs.dropLast, .d y)
  | .popAt, .ol xs, [.int i] => if 0 ≤ i ∧ i < 2 ^ 63 then (xs[i.toNat]?).map fun y => (.ol (xs.eraseIdx i.toNat), .d y) else none
  | _, _, _ => none
/-- one that does not -/
def mtW : Mt → D → List D → Option W
  | .get, .dict kvs, [k, x] => if dictOk kvs k then some (.d ((dGet kvs k).getD x)) else none
  | .join, .str a, [.list xs] => match strsD xs with
    | some ys => if (ys.map (·.length)).sum + ys.length * a.length ≤ 16777216 then some (.d (.str (Txt.join a ys))) else none
    | none => none
  | .split, .str a, [.str b] => if (b.length == 0) = false ∧ a.length + 2 ≤ sizeLine then some (.ol ((Txt.split a b).map .str)) else none
  | .index, .str a, [.str b] => match Txt.index0 a b with
    | some k => some (.d (.int k))
    | none => none
  | .upper, .str a, [] => if a.length ≤ 5592405 then some (.d (.str (Txt.upper a))) else none
  | _, _, _ => none
theorem wEq_eq : ∀ {a b : W}, wEq a b = true → a = b := by
  intro a b h
  cases a <;> cases b <;> simp only [wEq] at h <;> try (cases h; done)
  · rfl
  · rw [dEq_eq _ _ h]
  · rw [dEqs_eq _ _ h]
  · rw [dEqk_eq _ _ h]
  · rw [dEqs_eq _ _ h]
  · rw [dEqk_eq _ _ h]
  · rw [eq_of_beq h]
end FF
end
section
set_option Elab.async false
set_option linter.all false
set_option maxRecDepth 100000
/-! FB: the small syntax and its meaning. -/
namespace FF
open PySem PySem.Spec PyProof.Rows L2 PySem.W

mutual
inductive E where
  | k (x : D)
  | g (n : Nat) (x : D)
  | fnk (f : Nat)
  | var (i : Nat)
  | mv (i : Nat)
  | tup (es : Es)
  | lst (es : Es)
  | dsp (ps : Ps)
  | neg (a : E)
  | not (a : E)
  | bin (o : Bop) (a b : E)
  | cmp (o : Cop) (a b : E)
  | chain (o p : Cop) (a b c : E)
  | and (a b : E)
  | or (a b : E)
  | one (a : E)
  | ife (c a b : E)
  | idx (a i : E)
  | slc (a : E) (lo hi : Es)
  | rev (a : E)
  | call (f : Nat) (es : Es)
  | callv (i : Nat) (fs : List Nat) (es : Es)
  | bi (b : Bi) (es : Es)
  | isi (t : Ty) (a : E)
  | mt (m : Mt) (a : E) (es : Es)
  | app (i : Nat) (e : E)
  | mto (m : Mt) (i : Nat) (es : Es)
  | upd (i : Nat) (e : E)
  | sdap (i : Nat) (k e : E)
  | srtk (own : List Nat) (i : Nat) (a : E) (key : E)
  | lc (own : List Nat) (t : T) (s : Src) (c : Es) (e : E)
  | dc (own : List Nat) (t : T) (s : Src) (c : Es) (k v : E)
  | fstr (es : Es)
  | told (ks : List Str) (e : E)
  | lsi (a : E)
  | lsv (a : E)
  | mxv (a : E)
  | lsz (a b : E)
inductive Es where
  | nil
  | cons (e : E) (es : Es)
inductive Ps where
  | nil
  | cons (k v : E) (ps : Ps)
inductive T where
  | nm (i : Nat)
  | tp (ts : Ts)
  | sub (i : Nat) (e : E)
inductive Ts where
  | nil
  | cons (t : T) (ts : Ts)
inductive Src where
  | it (a : E)
  | lk (i : Nat)
  | r1 (a : E)
  | r2 (a b : E)
  | zip (a b : E)
  | enum (a : E)
  | enumz (a b : E)
  | items (a : E)
  | vals (a : E)
end
mutual
inductive S where
  | asg (t : T) (e : E)
  | par (is : List Nat) (es : Es)
  | ex (e : E)
  | if_ (c : E) (a b : Ss)
  | for_ (t : T) (s : Src) (body : Ss)
  | forf (i : Nat) (fs : List Nat) (body : Ss)
  | whl (c : E) (body : Ss)
  | ret (e : E)
  | retN
  | raise (c : Nat)
inductive Ss where
  | nil
  | cons (s : S) (ss : Ss)
end

def tsLen : Ts → Nat
  | .nil => 0
  | .cons _ ts => tsLen ts + 1
/-! ### small steps -/
def okW (w : Option W) (ρ : Sl) : O W := match w with
  | some w => .ok w ρ
  | none => .bad
@[simp] def okD (x : Option D) (ρ : Sl) : O W := okW (x.map .d) ρ
/-- a name read as a value: what it owns is owned no more -/
def rdVar (i : Nat) (ρ : Sl) : O W := match ρ[i]? with
  | some (.d x) => .ok (.d x) ρ
  | some (.fn f) => .ok (.fn f) ρ
  | some (.ol xs) => .ok (.d (.list xs)) (ρ.set i (.d (.list xs)))
  | some (.od kvs) => .ok (.d (.dict kvs)) (ρ.set i (.d (.dict kvs)))
  | _ => .bad
/-- a name read for the last time -/
def mvVar (i : Nat) (ρ : Sl) : O W := match ρ[i]? with
  | some (.d x) => .ok (.d x) ρ
  | some (.fn f) => .ok (.fn f) ρ
  | some (.ol xs) => .ok (.ol xs) (ρ.set i .un)
  | some (.od kvs) => .ok (.od kvs) (ρ.set i .un)
  | _ => .bad
/-- a name read in place -/
def pkVar (i : Nat) (ρ : Sl) : O A := match ρ[i]? with
  | some (.d x) => .ok (.v x) ρ
  | some (.fn f) => .ok (.f f) ρ
  | some (.ol _) => .ok (.s i) ρ
  | some (.od _) => .ok (.s i) ρ
  | some (.ll _) => .ok (.s i) ρ
  | some (.ld _) => .ok (.s i) ρ
  | _ => .bad
/-- a value taken as data -/
def W.frz : W → Option D
  | .d x => some x
  | .ol xs => some (.list xs)
  | .od kvs => some (.dict kvs)
  | _ => none
def dat (r : O W) : O D := match r with
  | .ok w ρ => (match w.frz with
    | some x => .ok x ρ
    | none => .bad)
  | .ex c ρ => .ex c ρ
  | .bad => .bad
def opnd (a : E) (r : O W) (ρ : Sl) : O A := match a with
  | .var i => pkVar i ρ
  | .fnk f => .ok (.f f) ρ
  | _ => match dat r with
    | .ok x ρ => .ok (.v x) ρ
    | .ex c ρ => .ex c ρ
    | .bad => .bad
/-- an operand's data when the operation comes -/
def A.get (a : A) (ρ : Sl) (k : D → O W) : O W := match a.at ρ with
  | some x => k x
  | none => .bad
def truM (x : D) (ρ : Sl) : O Bool := match truO x with
  | some t => .ok t ρ
  | none => .bad
/-- the arguments of a call: each as a slot's content -/
def argW (ρ : Sl) : A → Option W
  | .v x => some (.d x)
  | .f f => some (.fn f)
  | .s i => ρ[i]?
@[simp] def argsW (ρ : Sl) : List A → Option (List W)
  | [] => some []
  | a :: as => match argW ρ a, argsW ρ as with
    | some w, some ws => some (w :: ws)
    | _, _ => none
/-- no slot twice -/
@[simp] def slotsOf : List A → List Nat
  | [] => []
  | .s i :: as => i :: slotsOf as
  | _ :: as => slotsOf as
@[simp] def nodupB : List Nat → Bool
  | [] => true
  | x :: xs => !xs.contains x && nodupB xs
/-- what the arguments' objects hold behind the call -/
def putOuts (ρ : Sl) : List A → List W → Sl
  | .s i :: as, w :: ws => putOuts (ρ.set i w) as ws
  | _ :: as, _ :: ws => putOuts ρ as ws
  | _, _ => ρ
def doCall (F : FunD) (as : List A) (ρ : Sl) : O W :=
  if nodupB (slotsOf as) then
    match argsW ρ as with
    | some ws => (match F ws with
      | .ok w outs => .ok w (putOuts ρ as outs)
      | .ex c => .ex c ρ
      | .bad => .bad)
    | none => .bad
  else .bad
@[simp] def ats (ρ : Sl) : List A → Option (List D)
  | [] => some []
  | a :: as => match a.at ρ, ats ρ as with
    | some x, some xs => some (x :: xs)
    | _, _ => none
@[simp] def wipeW (ρ : Sl) : List Nat → Sl
  | [] => ρ
  | i :: is => (wipeW ρ is).set i .un
/-- the slots `own` as they were in ρ -/
@[simp] def backW (ρ ρ' : Sl) : List Nat → Sl
  | [] => ρ'
  | i :: is => match ρ[i]? with
    | some w => (backW ρ ρ' is).set i w
    | none => backW ρ ρ' is
def rangeD (a b : Int) : List D := (List.range (b - a).toNat).map fun (i : Nat) => .int (a + i)
def enumD : Nat → List D → List D
  | _, [] => []
  | n, x :: xs => .tuple [.int n, x] :: enumD (n + 1) xs
@[simp] def itemsOf : D → Option (List D)
  | .list xs => some xs
  | .tuple xs => some xs
  | .dict kvs => some (kvs.map (·.1))
  | .str z => some (z.cps.toList.map fun c => .str ⟨#[c]⟩)
  | _ => none
@[simp] def seqOf : D → Option (List D)
  | .list xs => some xs
  | .tuple xs => some xs
  | .str z => some (z.cps.toList.map fun c => .str ⟨#[c]⟩)
  | _ => none
def rangeOk (a b : Int) : Bool := decide (-(2 ^ 62) ≤ a) && decide (a < 2 ^ 62) && decide (-(2 ^ 62) ≤ b) && decide (b < 2 ^ 62)

/-- a slot is locked while it is walked; behind the walk it is as it was -/
def lockW (i : Nat) (ρ : Sl) : O (List D) := match ρ[i]? with
  | some (.d x) => (match itemsOf x with
    | some xs => .ok xs ρ
    | none => .bad)
  | some (.ol xs) => .ok xs (ρ.set i (.ll xs))
  | some (.od kvs) => .ok (kvs.map (·.1)) (ρ.set i (.ld kvs))
  | some (.ll xs) => .ok xs ρ
  | some (.ld kvs) => .ok (kvs.map (·.1)) ρ
  | _ => .bad
def freeW (i : Nat) (ρ ρ' : Sl) : Option Sl := match ρ[i]? with
  | some (.ol xs) => (match ρ'[i]? with
    | some (.ll _) => some (ρ'.set i (.ol xs))
    | _ => none)
  | some (.od kvs) => (match ρ'[i]? with
    | some (.ld _) => some (ρ'.set i (.od kvs))
    | _ => none)
  | _ => some ρ'
@[simp] def freeS (s : Src) (ρ ρ' : Sl) : Option Sl := match s with
  | .lk i => freeW i ρ ρ'
  | _ => some ρ'
def asgN (i : Nat) (w : W) (ρ : Sl) : Option Sl := if i < ρ.length then some (ρ.set i w) else none

def hasObj (ρ : Sl) (i : Nat) : Bool := match ρ[i]? with
  | some (.ol _) => true
  | some (.od _) => true
  | _ => false
def litNone : E → Bool
  | .k .none => true
  | _ => false

def toldS : Str := "told"
/-- the parts of an f-string -/
def fmtOf : D → Option Str
  | .str z => some z
  | .int i => if i.natAbs.log2 < 1920 then some (toString i) else none
  | _ => none
/-- the turns of a comprehension -/
def lcTurn (t : D → Sl → O Unit) (c : Sl → O Bool) (e : Sl → O D) : D → Sl → O (Option D) := fun x ρ => match t x ρ with
  | .ok _ ρ => (match c ρ with
    | .ok true ρ => (match e ρ with
      | .ok y ρ => .ok (some y) ρ
      | _ => .bad)
    | .ok false ρ => .ok none ρ
    | _ => .bad)
  | _ => .bad
def dcTurn (t : D → Sl → O Unit) (c : Sl → O Bool) (k v : Sl → O D) : D → Sl → O (Option (D × D)) := fun x ρ => match t x ρ with
  | .ok _ ρ => (match c ρ with
    | .ok true ρ => (match k ρ with
      | .ok y ρ => (match v ρ with
        | .ok z ρ => .ok (some (y, z)) ρ
        | _ => .bad)
      | _ => .bad)
    | .ok false ρ => .ok none ρ
    | _ => .bad)
  | _ => .bad
/-! ### the meaning -/
section
variable (Γ : Nat → FunD)

/-- a loop over items, in a comprehension -/
def lcLoop (own : List Nat) (turn : D → Sl → O (Option D)) : List D → List D → Sl → O (List D)
  | [], acc, ρ => .ok acc ρ
  | x :: xs, acc, ρ => match turn x ρ with
    | .ok (some y) ρ' => if acc.length < sizeLine then lcLoop own turn xs (acc ++ [y]) (wipeW ρ' own) else .bad
    | .ok none ρ' => lcLoop own turn xs acc (wipeW ρ' own)
    | _ => .bad
def dcLoop (own : List Nat) (turn : D → Sl → O (Option (D × D))) : List D → List (D × D) → Sl → O (List (D × D))
  | [], acc, ρ => .ok acc ρ
  | x :: xs, acc, ρ => match turn x ρ with
    | .ok (some kv) ρ' => if dictOk acc kv.1 then dcLoop own turn xs (dPut acc kv.1 kv.2) (wipeW ρ' own) else .bad
    | .ok none ρ' => dcLoop own turn xs acc (wipeW ρ' own)
    | _ => .bad
def sortKey (turn : D → Option D) : List D → Option (List (D × D))
  | [] => some []
  | x :: xs => match turn x, sortKey turn xs with
    | some k, some r => some ((k, x) :: r)
    | _, _ => none

mutual
def evW : E → Sl → O W
  | .k x, ρ => .ok (.d x) ρ
  | .g _ x, ρ => .ok (.d x) ρ
  | .fnk f, ρ => .ok (.fn f) ρ
  | .var i, ρ => rdVar i ρ
  | .mv i, ρ => mvVar i ρ
  | .tup es, ρ => (evDs es ρ).bind fun xs ρ => if xs.length ≤ sizeLine then .ok (.d (.tuple xs)) ρ else .bad
  | .lst es, ρ => (evDs es ρ).bind fun xs ρ => if xs.length ≤ sizeLine then .ok (.ol xs) ρ else .bad
  | .dsp ps, ρ => evPs ps [] ρ
  | .neg a, ρ => (opnd a (evW a ρ) ρ).bind fun a ρ => a.get ρ fun x => okW (match x with
    | .int i => some (.d (.int (-i)))
    | _ => none) ρ
  | .not a, ρ => (dat (evW a ρ)).bind fun x ρ => match x with
    | .bool t => .ok (.d (.bool (!t))) ρ
    | _ => .bad
  | .bin o a b, ρ => (opnd a (evW a ρ) ρ).bind fun a ρ => (opnd b (evW b ρ) ρ).bind fun b ρ => a.get ρ fun x => b.get ρ fun y => okW (binW o x y) ρ
  | .cmp o a b, ρ => (opnd a (evW a ρ) ρ).bind fun a ρ => (opnd b (evW b ρ) ρ).bind fun b ρ => a.get ρ fun x => b.get ρ fun y => okW ((cmpD o x y).map fun b => .d (.bool b)) ρ
  | .chain o p a b c, ρ => (opnd a (evW a ρ) ρ).bind fun a ρ => (opnd b (evW b ρ) ρ).bind fun b ρ => a.get ρ fun x => b.get ρ fun y => match cmpD o x y with
    | some true => (opnd c (evW c ρ) ρ).bind fun c ρ => b.get ρ fun y => c.get ρ fun z => okD ((cmpD p y z).map .bool) ρ
    | some false => .ok (.d (.bool false)) ρ
    | none => .bad
  | .and a b, ρ => (dat (evW a ρ)).bind fun x ρ => match x with
    | .bool true => evW b ρ
    | .bool false => .ok (.d (.bool false)) ρ
    | _ => .bad
  | .or a b, ρ => (dat (evW a ρ)).bind fun x ρ => match x with
    | .bool true => .ok (.d (.bool true)) ρ
    | .bool false => evW b ρ
    | _ => .bad
  | .one a, ρ => evW a ρ
  | .ife c a b, ρ => (evT c ρ).bind fun t ρ => if t then evW a ρ else evW b ρ
  | .idx a i, ρ => (opnd a (evW a ρ) ρ).bind fun a ρ => (opnd i (evW i ρ) ρ).bind fun b ρ => a.get ρ fun x => b.get ρ fun y => okW ((idxD x y).map .d) ρ
  | .slc a lo hi, ρ => (opnd a (evW a ρ) ρ).bind fun a ρ => (evO lo ρ).bind fun l ρ => (evO hi ρ).bind fun h ρ => a.get ρ fun x => okW (slcW x l h) ρ
  | .rev a, ρ => (opnd a (evW a ρ) ρ).bind fun a ρ => a.get ρ fun x => okW (revW x) ρ
  | .call f es, ρ => (evAs es ρ).bind fun as ρ => doCall (Γ f) as ρ
  | .callv i fs es, ρ => match ρ[i]? with
    | some (.fn f) => if fs.contains f = true then (evAs es ρ).bind fun as ρ => doCall (Γ f) as ρ else .bad
    | _ => .bad
  | .bi b es, ρ => (evAs es ρ).bind fun as ρ => match ats ρ as with
    | some xs => okW (biW b xs) ρ
    | none => .bad
  | .isi t a, ρ => (opnd a (evW a ρ) ρ).bind fun a ρ => a.get ρ fun x => okW (isiW t x) ρ
  | .mt m a es, ρ => (opnd a (evW a ρ) ρ).bind fun a ρ => match a with
    | .v (.str z) => (evAs es ρ).bind fun as ρ => (match ats ρ as with
      | some xs => okW (mtW m (.str z) xs) ρ
      | none => .bad)
    | _ => .bad
  | .mto m i es, ρ => match ρ[i]? with
    | some (.ol _) => (evAs es ρ).bind fun as ρ => if (slotsOf as).contains i then .bad else (match ρ[i]?, ats ρ as with
      | some w, some xs => (match mtOwn m w xs with
        | some (w', r) => .ok r (ρ.set i w')
        | none => .bad)
      | _, _ => .bad)
    | _ => .bad
  | .upd i e, ρ => match ρ[i]? with
    | some (.od _) => (dat (evW e ρ)).bind fun y ρ => (match ρ[i]?, y with
      | some (.od kvs), .dict ls => (match putAll kvs ls with
        | some r => .ok (.d .none) (ρ.set i (.od r))
        | none => .bad)
      | _, _ => .bad)
    | _ => .bad
  | .app i e, ρ => match ρ[i]? with
    | some (.ol _) => (dat (evW e ρ)).bind fun y ρ => (match ρ[i]? with
      | some (.ol xs) => if xs.length < sizeLine then .ok (.d .none) (ρ.set i (.ol (xs ++ [y]))) else .bad
      | _ => .bad)
    | _ => .bad
  | .sdap i k e, ρ => (dat (evW k ρ)).bind fun x ρ => (dat (evW e ρ)).bind fun y ρ => match ρ[i]? with
    | some (.od kvs) => if dictOk kvs x then (match dGet kvs x with
      | some (.list xs) => .ok (.d .none) (ρ.set i (.od (dPut kvs x (.list (xs ++ [y])))))
      | none => .ok (.d .none) (ρ.set i (.od (dPut kvs x (.list [y]))))
      | _ => .bad) else .bad
    | _ => .bad
  | .srtk own i a key, ρ => (opnd a (evW a ρ) ρ).bind fun a ρ => a.get ρ fun x => match x with
    | .list xs => (match sortKey (fun x => match evW key ((wipeW ρ own).set i (.d x)) with
        | .ok (.d y) _ => some y
        | _ => none) xs with
      | some ps => if sortOk (ps.map (·.1)) then .ok (.ol ((ps.mergeSort fun a b => !PySem.W.dataLt b.1 a.1).map (·.2))) ρ else .bad
      | none => .bad)
    | _ => .bad
  | .lc own t s c e, ρ₀ => (evSrc s ρ₀).bind fun xs ρ =>
      match lcLoop own (lcTurn (fun x ρ => asgT t (.d x) ρ) (fun ρ => evCs c ρ) fun ρ => dat (evW e ρ)) xs [] (wipeW ρ own) with
      | .ok ys ρ' => (match freeS s ρ₀ (backW ρ ρ' own) with
        | some ρ'' => .ok (.ol ys) ρ''
        | none => .bad)
      | _ => .bad
  | .dc own t s c k v, ρ₀ => (evSrc s ρ₀).bind fun xs ρ =>
      match dcLoop own (dcTurn (fun x ρ => asgT t (.d x) ρ) (fun ρ => evCs c ρ) (fun ρ => dat (evW k ρ)) fun ρ => dat (evW v ρ)) xs [] (wipeW ρ own) with
      | .ok ys ρ' => (match freeS s ρ₀ (backW ρ ρ' own) with
        | some ρ'' => .ok (.od ys) ρ''
        | none => .bad)
      | _ => .bad
  | .fstr es, ρ => (evJ es Str.empty ρ).bind fun z ρ => .ok (.d (.str z)) ρ
  | .told ks e, ρ => match dat (evW e ρ) with
    | .ok x ρ => .ok (.d (.tuple [.str toldS, x])) ρ
    | .ex c ρ => (match ks[c]? with
      | some z => .ok (.d (.tuple [.str z])) ρ
      | none => .bad)
    | .bad => .bad
  | .lsi a, ρ => (opnd a (evW a ρ) ρ).bind fun a ρ => a.get ρ fun x => match x with
    | .dict kvs => .ok (.ol (kvs.map fun kv => .tuple [kv.1, kv.2])) ρ
    | _ => .bad
  | .lsv a, ρ => (opnd a (evW a ρ) ρ).bind fun a ρ => a.get ρ fun x => match x with
    | .dict kvs => .ok (.ol (kvs.map (·.2))) ρ
    | _ => .bad
  | .mxv a, ρ => (opnd a (evW a ρ) ρ).bind fun a ρ => a.get ρ fun x => match x with
    | .dict kvs => okW (biW .max [.list (kvs.map (·.2))]) ρ
    | _ => .bad
  | .lsz a b, ρ => (opnd a (evW a ρ) ρ).bind fun a ρ => (opnd b (evW b ρ) ρ).bind fun b ρ => a.get ρ fun x => b.get ρ fun y => match seqOf x, seqOf y with
    | some xs, some ys => .ok (.ol (List.zipWith (fun x y => .tuple [x, y]) xs ys)) ρ
    | _, _ => .bad
/-- as a test -/
def evT : E → Sl → O Bool
  | .and a b, ρ => (evT a ρ).bind fun t ρ => if t then evT b ρ else .ok false ρ
  | .or a b, ρ => (evT a ρ).bind fun t ρ => if t then .ok true ρ else evT b ρ
  | .one a, ρ => evT a ρ
  | .not a, ρ => (evT a ρ).bind fun t ρ => .ok (!t) ρ
  | .ife c a b, ρ => (evT c ρ).bind fun t ρ => if t then evT a ρ else evT b ρ
  | .var i, ρ => (pkVar i ρ).bind fun a ρ => match a.at ρ with
    | some x => truM x ρ
    | none => .bad
  | .k x, ρ => truM x ρ
  | .g _ x, ρ => truM x ρ
  | .cmp o a b, ρ => (opnd a (evW a ρ) ρ).bind fun a ρ => (opnd b (evW b ρ) ρ).bind fun b ρ => match a.at ρ, b.at ρ with
    | some x, some y => (match cmpD o x y with
      | some t => .ok t ρ
      | none => .bad)
    | _, _ => .bad
  | .idx a i, ρ => ((opnd a (evW a ρ) ρ).bind fun a ρ => (opnd i (evW i ρ) ρ).bind fun b ρ => a.get ρ fun x => b.get ρ fun y => okW ((idxD x y).map .d) ρ).bind fun w ρ => match w.data with
    | some x => truM x ρ
    | none => .bad
  | .chain o p a b c, ρ => (opnd a (evW a ρ) ρ).bind fun a ρ => (opnd b (evW b ρ) ρ).bind fun b ρ => match a.at ρ, b.at ρ with
    | some x, some y => (match cmpD o x y with
      | some true => (opnd c (evW c ρ) ρ).bind fun c ρ => (match b.at ρ, c.at ρ with
        | some y, some z => (match cmpD p y z with
          | some t => .ok t ρ
          | none => .bad)
        | _, _ => .bad)
      | some false => .ok false ρ
      | none => .bad)
    | _, _ => .bad
  | .call f es, ρ => ((evAs es ρ).bind fun as ρ => doCall (Γ f) as ρ).bind fun w ρ => match w.data with
    | some x => truM x ρ
    | none => .bad
  | .bi b es, ρ => ((evAs es ρ).bind fun as ρ => match ats ρ as with
    | some xs => okW (biW b xs) ρ
    | none => .bad).bind fun w ρ => match w.data with
    | some x => truM x ρ
    | none => .bad
  | .isi t a, ρ => ((opnd a (evW a ρ) ρ).bind fun a ρ => a.get ρ fun x => okW (isiW t x) ρ).bind fun w ρ => match w.data with
    | some x => truM x ρ
    | none => .bad
  | _, _ => .bad
def evDs : Es → Sl → O (List D)
  | .nil, ρ => .ok [] ρ
  | .cons e es, ρ => (dat (evW e ρ)).bind fun x ρ => (evDs es ρ).bind fun xs ρ => .ok (x :: xs) ρ
/-- the parts of an f-string, one behind the other -/
def evJ : Es → Str → Sl → O Str
  | .nil, acc, ρ => .ok acc ρ
  | .cons e es, acc, ρ => (dat (evW e ρ)).bind fun x ρ => match fmtOf x with
    | some y => if (acc ++ y).length ≤ 1000 then evJ es (acc ++ y) ρ else .bad
    | none => .bad
def evAs : Es → Sl → O (List A)
  | .nil, ρ => .ok [] ρ
  | .cons e es, ρ => (opnd e (evW e ρ) ρ).bind fun x ρ => (evAs es ρ).bind fun xs ρ => .ok (x :: xs) ρ
/-- none, or an int -/
def evO : Es → Sl → O (Option Int)
  | .nil, ρ => .ok none ρ
  | .cons e _, ρ => (dat (evW e ρ)).bind fun x ρ => match x with
    | .int i => .ok (some i) ρ
    | _ => .bad
def evPs : Ps → List (D × D) → Sl → O W
  | .nil, acc, ρ => .ok (.od acc) ρ
  | .cons k v ps, acc, ρ => (dat (evW k ρ)).bind fun x ρ => (dat (evW v ρ)).bind fun y ρ => if dictOk acc x then evPs ps (dPut acc x y) ρ else .bad
def evCs : Es → Sl → O Bool
  | .nil, ρ => .ok true ρ
  | .cons c _, ρ => evT c ρ
/-- the items that are walked -/
def evSrc : Src → Sl → O (List D)
  | .it a, ρ => (dat (evW a ρ)).bind fun x ρ => match itemsOf x with
    | some xs => .ok xs ρ
    | none => .bad
  | .lk i, ρ => lockW i ρ
  | .r1 a, ρ => (dat (evW a ρ)).bind fun x ρ => match x with
    | .int n => if rangeOk 0 n then .ok (rangeD 0 n) ρ else .bad
    | _ => .bad
  | .r2 a b, ρ => (dat (evW a ρ)).bind fun x ρ => (dat (evW b ρ)).bind fun y ρ => match x, y with
    | .int m, .int n => if rangeOk m n then .ok (rangeD m n) ρ else .bad
    | _, _ => .bad
  | .zip a b, ρ => (dat (evW a ρ)).bind fun x ρ => (dat (evW b ρ)).bind fun y ρ => match x, y with
    | .list xs, .list ys => .ok (List.zipWith (fun x y => .tuple [x, y]) xs ys) ρ
    | .tuple xs, .tuple ys => .ok (List.zipWith (fun x y => .tuple [x, y]) xs ys) ρ
    | _, _ => .bad
  | .enum a, ρ => (dat (evW a ρ)).bind fun x ρ => match x with
    | .list xs => .ok (enumD 0 xs) ρ
    | .tuple xs => .ok (enumD 0 xs) ρ
    | _ => .bad
  | .enumz a b, ρ => (dat (evW a ρ)).bind fun x ρ => (dat (evW b ρ)).bind fun y ρ => match x, y with
    | .list xs, .tuple ys => .ok (enumD 0 (List.zipWith (fun x y => .tuple [x, y]) xs ys)) ρ
    | _, _ => .bad
  | .items a, ρ => (dat (evW a ρ)).bind fun x ρ => match x with
    | .dict kvs => .ok (kvs.map fun kv => .tuple [kv.1, kv.2]) ρ
    | _ => .bad
  | .vals a, ρ => (dat (evW a ρ)).bind fun x ρ => match x with
    | .dict kvs => .ok (kvs.map (·.2)) ρ
    | _ => .bad
/-- an assignment's target -/
def asgT : T → W → Sl → O Unit
  | .nm i, w, ρ => if i < ρ.length then .ok () (ρ.set i w) else .bad
  | .tp ts, w, ρ => match w with
    | .d (.tuple xs) => if xs.length = tsLen ts then asgTs ts xs ρ else .bad
    | .d (.list xs) => if xs.length = tsLen ts then asgTs ts xs ρ else .bad
    | _ => .bad
  | .sub i e, w, ρ => match w with
    | .d x => if hasObj ρ i = true then (opnd e (evW e ρ) ρ).bind fun b ρ => match b.at ρ with
      | some k => (match ρ[i]? with
        | some (.ol xs) => (match k with
          | .int j => if 0 ≤ j ∧ j < xs.length then .ok () (ρ.set i (.ol (xs.set j.toNat x))) else .bad
          | _ => .bad)
        | some (.od kvs) => if dictOk kvs k then .ok () (ρ.set i (.od (dPut kvs k x))) else .bad
        | _ => .bad)
      | none => .bad
      else .bad
    | _ => .bad
def asgTs : Ts → List D → Sl → O Unit
  | .nil, [], ρ => .ok () ρ
  | .cons t ts, x :: xs, ρ => (asgT t (.d x) ρ).bind fun _ ρ => asgTs ts xs ρ
  | _, _, _ => .bad
end

/-- what a statement comes to -/
inductive SO where
  | nx (ρ : Sl)
  | rt (w : W) (ρ : Sl)
  | ex (c : Nat) (ρ : Sl)
  | bad
def SO.seq (x : SO) (f : Sl → SO) : SO := match x with
  | .nx ρ => f ρ
  | .rt w ρ => .rt w ρ
  | .ex c ρ => .ex c ρ
  | .bad => .bad
/-- behind a walk -/
def SO.free (x : SO) (s : Src) (ρ₀ : Sl) : SO := match x with
  | .nx ρ => (match freeS s ρ₀ ρ with
    | some ρ => .nx ρ
    | none => .bad)
  | .rt w ρ => (match freeS s ρ₀ ρ with
    | some ρ => .rt w ρ
    | none => .bad)
  | .ex c ρ => (match freeS s ρ₀ ρ with
    | some ρ => .ex c ρ
    | none => .bad)
  | .bad => .bad
def O.to {α : Type} (x : O α) (f : α → Sl → SO) : SO := match x with
  | .ok a ρ => f a ρ
  | .ex c ρ => .ex c ρ
  | .bad => .bad
def forLoop (turn : D → Sl → SO) : List D → Sl → SO
  | [], ρ => .nx ρ
  | x :: xs, ρ => (turn x ρ).seq fun ρ => forLoop turn xs ρ
def forfLoop (turn : Nat → Sl → SO) : List Nat → Sl → SO
  | [], ρ => .nx ρ
  | x :: xs, ρ => (turn x ρ).seq fun ρ => forfLoop turn xs ρ
def whlLoop (c : Sl → O Bool) (body : Sl → SO) : Nat → Sl → SO
  | 0, _ => .bad
  | n + 1, ρ => (c ρ).to fun t ρ => if t then (body ρ).seq fun ρ => whlLoop c body n ρ else .nx ρ
/-- more turns than any while takes -/
def FUEL : Nat := 1000000000000
def evWs : Es → Sl → O (List W)
  | .nil, ρ => .ok [] ρ
  | .cons e es, ρ => (evW Γ e ρ).bind fun w ρ => (evWs es ρ).bind fun ws ρ => .ok (w :: ws) ρ
def setAll : List (Nat × W) → Sl → Sl
  | [], ρ => ρ
  | (i, w) :: r, ρ => setAll r (ρ.set i w)
mutual
def evS : S → Sl → SO
  | .asg t e, ρ => match t with
    | .nm i => (evW Γ e ρ).to fun w ρ => (if i < ρ.length then .ok () (ρ.set i w) else .bad : O Unit).to fun _ ρ => .nx ρ
    | t => (dat (evW Γ e ρ)).to fun x ρ => (asgT Γ t (.d x) ρ).to fun _ ρ => .nx ρ
  | .par is es, ρ => (evWs Γ es ρ).to fun ws ρ => if ws.length = is.length ∧ (is.all fun i => decide (i < ρ.length)) = true then .nx (setAll (is.zip ws) ρ) else .bad
  | .ex e, ρ => (evW Γ e ρ).to fun _ ρ => .nx ρ
  | .if_ c a b, ρ => (evT Γ c ρ).to fun t ρ => if t then evSs a ρ else evSs b ρ
  | .for_ t s body, ρ₀ => (evSrc Γ s ρ₀).to fun xs ρ => (forLoop (fun x ρ => (asgT Γ t (.d x) ρ).to fun _ ρ => evSs body ρ) xs ρ).free s ρ₀
  | .forf i fs body, ρ => forfLoop (fun f ρ => if i < ρ.length then evSs body (ρ.set i (.fn f)) else .bad) fs ρ
  | .whl c body, ρ => whlLoop (fun ρ => evT Γ c ρ) (fun ρ => evSs body ρ) FUEL ρ
  | .ret e, ρ => (evW Γ e ρ).to fun w ρ => .rt w ρ
  | .retN, ρ => .rt (.d .none) ρ
  | .raise c, ρ => .ex c ρ
def evSs : Ss → Sl → SO
  | .nil, ρ => .nx ρ
  | .cons s ss, ρ => (evS s ρ).seq fun ρ => evSs ss ρ
end
end

/-- a def: its parameters first; `by` are those that are never bound anew -/
structure Fn where
  n : Nat
  slots : Nat
  by_ : List Nat
  body : Ss
@[simp] def ownOnly (by_ : List Nat) : Nat → List W → Bool
  | _, [] => true
  | i, w :: ws => (!w.hold || by_.contains i) && ownOnly by_ (i + 1) ws
def sameOwn : List W → List W → Bool
  | [], _ => true
  | w :: ws, v :: vs => (!w.hold || wEq w v) && sameOwn ws vs
  | _ :: _, [] => false
/-- what the arguments' objects hold behind a call -/
@[simp] def outsOf (by_ : List Nat) : Nat → List W → List W → List W
  | _, [], _ => []
  | i, w :: ws, v :: vs => (if by_.contains i then v else w) :: outsOf by_ (i + 1) ws vs
  | i, w :: ws, [] => w :: outsOf by_ (i + 1) ws []
def evFn (Γ : Nat → FunD) (f : Fn) : FunD := fun ws =>
  if ws.length = f.n ∧ ownOnly f.by_ 0 ws = true then
    match evSs Γ f.body (ws ++ List.replicate (f.slots - f.n) .un) with
    | .nx ρ => .ok (.d .none) (outsOf f.by_ 0 ws ρ)
    | .rt w ρ => .ok w (outsOf f.by_ 0 ws ρ)
    | .ex c ρ => if sameOwn ws ρ then .ex c else .bad
    | .bad => .bad
  else .bad
/-! ### a def that ends with return (a list of its own, data): the list is told -/
def endO (i j : Nat) (ρ : Sl) : SO := match ρ[i]?, ρ[j]? with
  | some (.ol xs), some (.d _) => .rt (.ol xs) (ρ.set i .un)
  | _, _ => .bad
def evSsO (Γ : Nat → FunD) (i j : Nat) : Ss → Sl → SO
  | .nil, ρ => endO i j ρ
  | .cons s ss, ρ => match evS Γ s ρ with
    | .nx ρ => evSsO Γ i j ss ρ
    | .ex c ρ => .ex c ρ
    | _ => .bad
def evFnO (Γ : Nat → FunD) (i j : Nat) (f : Fn) : FunD := fun ws =>
  if ws.length = f.n ∧ ownOnly f.by_ 0 ws = true then
    match evSsO Γ i j f.body (ws ++ List.replicate (f.slots - f.n) .un) with
    | .rt w ρ => .ok w (outsOf f.by_ 0 ws ρ)
    | .ex c ρ => if sameOwn ws ρ then .ex c else .bad
    | _ => .bad
  else .bad
end FF
end
section
set_option Elab.async false
set_option linter.all false
set_option maxRecDepth 100000
set_option maxHeartbeats 1000000
/-! FC: data, slots and results in the abstract heap; a step; the readings. -/
namespace FF
open PySem PySem.Spec PyProof.Rows L2 PySem.W

/-! ### data in the abstract heap -/
/-- a list that is never written any more -/
def KL (K : PySem.W.Frag) (a : Addr) (xs : List V) : Prop := ∃ (its : List Value) (n : Nat), K.lookup a = some { cls := .type "list", data := .seq its.toArray n } ∧ Vals xs its ∧ xs.length ≤ sizeLine
def FzL (K : PySem.W.Frag) (H : Hp) (a : Addr) (xs : List V) : Prop := (∃ o, H a = some (.frz o (.lst xs))) ∨ KL K a xs
/-- a list that may be read -/
def RdL (K : PySem.W.Frag) (H : Hp) (a : Addr) (xs : List V) : Prop := Rd H a (.lst xs) ∨ KL K a xs
theorem FzL.rd {K : PySem.W.Frag} {H : Hp} {a : Addr} {xs : List V} (h : FzL K H a xs) : RdL K H a xs := h.elim (fun h => .inl (.inr h)) .inr
theorem RdL.sq {K : PySem.W.Frag} {H : Hp} {a : Addr} {xs : List V} (h : RdL K H a xs) : SqL K H a xs := by
  rcases h with h | ⟨its, n, h1, h2, h3⟩
  · exact .inl h
  · exact .inr ⟨_, its.toArray, n, h1, rfl, rfl, rfl, by rw [List.size_toArray, ← h2.length]; exact h3, by simpa using h2⟩
/-- the dict at a, to the entry -/
def dxO (a : Addr) (es : Array DictEntry) (ep : Nat) : HO := .ext fun h => h.DictRaw a es ep
structure DEnt (w : World) (e : DictEntry) (k : D) : Prop where
  hash : ∃ kk, nkey k = some kk ∧ kk.depth ≤ 8 ∧ e.hash = kk.hash w

mutual
inductive RD (K : PySem.W.Frag) (w : World) (H : Hp) : V → D → Prop
  | non : RD K w H .non .none
  | bl (b : Bool) : RD K w H (.bl b) (.bool b)
  | int (i : Int) : RD K w H (.int i) (.int i)
  | str (x : Str) : RD K w H (.str x) (.str x)
  | lst {a : Addr} {xs : List V} {ds : List D} : FzL K H a xs → RDs K w H xs ds → RD K w H (.ref a) (.list ds)
  | tup {a : Addr} {xs : List V} {ds : List D} : SqT K H a xs → RDs K w H xs ds → RD K w H (.ref a) (.tuple ds)
  | dct {a : Addr} {o : Obj} {es : Array DictEntry} {ep : Nat} {es' : List DictEntry} {kvs : List (D × D)} : H a = some (.frz o (dxO a es ep)) → es.toList = es' → REs K w H es' kvs → (a == sysModules) = false → (kvs.map fun kv => nkey kv.1).Nodup → kvs.length ≤ sizeLine → (kvs.all fun kv => isTup kv.1) = true →
      RD K w H (.ref a) (.dict kvs)
inductive RDs (K : PySem.W.Frag) (w : World) (H : Hp) : List V → List D → Prop
  | nil : RDs K w H [] []
  | cons {v : V} {vs : List V} {d : D} {ds : List D} : RD K w H v d → RDs K w H vs ds → RDs K w H (v :: vs) (d :: ds)
inductive REs (K : PySem.W.Frag) (w : World) (H : Hp) : List DictEntry → List (D × D) → Prop
  | nil : REs K w H [] []
  | cons {e : DictEntry} {es : List DictEntry} {k v : D} {kvs : List (D × D)} {kv vv : V} : RelV kv e.key → RD K w H kv k → RelV vv e.val → RD K w H vv v → DEnt w e k → REs K w H es kvs → REs K w H (e :: es) ((k, v) :: kvs)
end

/-- the name of the lambdas that law makes -/
def lamQ : Str := "law.<locals>.<lambda>"
/-- what is read alone stays -/
structure Mo (H H' : Hp) : Prop where
  tup : ∀ a xs, H a = some (.tup xs) → H' a = some (.tup xs)
  frz : ∀ a o u, H a = some (.frz o u) → H' a = some (.frz o u)
  tab : ∀ P, LamX.TabS H P lamQ → LamX.TabS H' P lamQ
theorem Mo.refl (H : Hp) : Mo H H := ⟨fun _ _ h => h, fun _ _ _ h => h, fun _ h => h⟩
theorem Mo.trans {H H1 H2 : Hp} (a : Mo H H1) (b : Mo H1 H2) : Mo H H2 := ⟨fun c xs h => b.tup c xs (a.tup c xs h), fun c o u h => b.frz c o u (a.frz c o u h), fun P h => b.tab P (a.tab P h)⟩
theorem Mo.sqT {K : PySem.W.Frag} {H H' : Hp} {a : Addr} {xs : List V} (m : Mo H H') (h : SqT K H a xs) : SqT K H' a xs := by
  rcases h with (h | ⟨o, h⟩) | h
  · exact .inl (.inl (m.tup _ _ h))
  · exact .inl (.inr ⟨o, m.frz _ _ _ h⟩)
  · exact .inr h
theorem Mo.fzL {K : PySem.W.Frag} {H H' : Hp} {a : Addr} {xs : List V} (m : Mo H H') (h : FzL K H a xs) : FzL K H' a xs :=
  h.elim (fun ⟨o, h⟩ => .inl ⟨o, m.frz _ _ _ h⟩) .inr
section
variable {K : PySem.W.Frag} {w : World} {H H' : Hp}
mutual
theorem RD.mono (m : Mo H H') : ∀ (d : D) (v : V), RD K w H v d → RD K w H' v d
  | .none, _, h => by cases h; exact .non
  | .bool b, _, h => by cases h; exact .bl _
  | .int i, _, h => by cases h; exact .int _
  | .str x, _, h => by cases h; exact .str _
  | .list ds, _, h => by cases h with | lst h1 h2 => exact .lst (m.fzL h1) (RDs.mono m ds _ h2)
  | .tuple ds, _, h => by cases h with | tup h1 h2 => exact .tup (m.sqT h1) (RDs.mono m ds _ h2)
  | .dict kvs, _, h => by cases h with | dct h1 e0 h2 h3 h4 h5 h6 => exact .dct (m.frz _ _ _ h1) e0 (REs.mono m kvs _ h2) h3 h4 h5 h6
theorem RDs.mono (m : Mo H H') : ∀ (ds : List D) (vs : List V), RDs K w H vs ds → RDs K w H' vs ds
  | [], _, h => by cases h; exact .nil
  | d :: ds, _, h => by cases h with | cons h1 h2 => exact .cons (RD.mono m d _ h1) (RDs.mono m ds _ h2)
theorem REs.mono (m : Mo H H') : ∀ (ds : List (D × D)) (vs : List DictEntry), REs K w H vs ds → REs K w H' vs ds
  | [], _, h => by cases h; exact .nil
  | (k, v) :: ds, _, h => by cases h with | cons h1 h2 h3 h4 h5 h6 => exact .cons h1 (RD.mono m k _ h2) h3 (RD.mono m v _ h4) h5 (REs.mono m ds _ h6)
end
theorem RDs.length : ∀ {vs : List V} {ds : List D}, RDs K w H vs ds → vs.length = ds.length
  | _, _, .nil => rfl
  | _, _, .cons _ t => by rw [List.length_cons, List.length_cons, RDs.length t]
theorem RDs.append : ∀ {vs us : List V} {ds es : List D}, RDs K w H vs ds → RDs K w H us es → RDs K w H (vs ++ us) (ds ++ es)
  | _, _, _, _, .nil, s => s
  | _, _, _, _, .cons r t, s => .cons r (RDs.append t s)
theorem RDs.get : ∀ {vs : List V} {ds : List D} {i : Nat} {d : D}, RDs K w H vs ds → ds[i]? = some d → ∃ v, vs[i]? = some v ∧ RD K w H v d
  | _, _, _, _, .nil, e => by simp at e
  | _, _, 0, _, .cons r _, e => by simp at e; subst e; exact ⟨_, rfl, r⟩
  | _, _, i + 1, d, .cons _ t, e => by
    obtain ⟨u, h1, h2⟩ := RDs.get (i := i) (d := d) t (by simpa using e)
    exact ⟨u, by simpa using h1, h2⟩
theorem RDs.getV : ∀ {vs : List V} {ds : List D} {i : Nat} {v : V}, RDs K w H vs ds → vs[i]? = some v → ∃ d, ds[i]? = some d ∧ RD K w H v d
  | _, _, _, _, .nil, e => by simp at e
  | _, _, 0, _, .cons r _, e => by simp at e; subst e; exact ⟨_, rfl, r⟩
  | _, _, i + 1, d, .cons _ t, e => by
    obtain ⟨u, h1, h2⟩ := RDs.getV (i := i) (v := d) t (by simpa using e)
    exact ⟨u, by simpa using h1, h2⟩
theorem RDs.set {v : V} {d : D} (r : RD K w H v d) : ∀ {vs : List V} {ds : List D} (i : Nat), RDs K w H vs ds → RDs K w H (vs.set i v) (ds.set i d)
  | _, _, _, .nil => .nil
  | _, _, 0, .cons _ t => .cons r t
  | _, _, i + 1, .cons q t => .cons q (RDs.set r i t)
theorem RDs.take : ∀ {vs : List V} {ds : List D} (n : Nat), RDs K w H vs ds → RDs K w H (vs.take n) (ds.take n)
  | _, _, 0, _ => .nil
  | _, _, _ + 1, .nil => .nil
  | _, _, n + 1, .cons r t => .cons r (RDs.take n t)
theorem RDs.drop : ∀ {vs : List V} {ds : List D} (n : Nat), RDs K w H vs ds → RDs K w H (vs.drop n) (ds.drop n)
  | _, _, 0, r => r
  | _, _, _ + 1, .nil => .nil
  | _, _, n + 1, .cons r t => RDs.drop n t
theorem RDs.reverse : ∀ {vs : List V} {ds : List D}, RDs K w H vs ds → RDs K w H vs.reverse ds.reverse
  | _, _, .nil => .nil
  | _, _, .cons r t => by
    rw [List.reverse_cons, List.reverse_cons]
    exact (RDs.reverse t).append (.cons r .nil)
theorem RDs.rep : ∀ {vs : List V} {ds : List D} (n : Nat), RDs K w H vs ds → RDs K w H (List.replicate n vs).flatten (List.replicate n ds).flatten
  | _, _, 0, _ => .nil
  | _, _, n + 1, r => by
    rw [List.replicate_succ, List.replicate_succ, List.flatten_cons, List.flatten_cons]
    exact r.append (RDs.rep n r)
theorem RDs.dropLast {vs : List V} {ds : List D} (r : RDs K w H vs ds) : RDs K w H vs.dropLast ds.dropLast := by
  rw [List.dropLast_eq_take, List.dropLast_eq_take, r.length]
  exact r.take _
theorem RDs.eraseIdx : ∀ {vs : List V} {ds : List D} (n : Nat), RDs K w H vs ds → RDs K w H (vs.eraseIdx n) (ds.eraseIdx n)
  | _, _, _, .nil => by simp only [List.eraseIdx_nil]; exact .nil
  | _, _, 0, .cons r t => t
  | _, _, n + 1, .cons r t => .cons r (RDs.eraseIdx n t)
end
end FF
end
section
set_option Elab.async false
set_option linter.all false
set_option maxRecDepth 100000
set_option maxHeartbeats 1000000
/-! FD: slots, steps, readings. -/
namespace FF
open PySem PySem.Spec PyProof.Rows L2 PySem.W

theorem W.hold_of_own {w : W} (h : w.own = true) : w.hold = true := by cases w <;> simp [W.own, W.hold] at *
structure DOk (K : PySem.W.Frag) (w : World) (H : Hp) (a : Addr) (es : Array DictEntry) (kvs : List (D × D)) : Prop where
  ents : REs K w H es.toList kvs
  nosys : (a == sysModules) = false
  nd : (kvs.map fun kv => nkey kv.1).Nodup
  len : kvs.length ≤ sizeLine
  tu : (kvs.all fun kv => isTup kv.1) = true
section
variable (K : PySem.W.Frag) (wd : World) (fa : Nat → Addr)
def RW (H : Hp) (v : V) : W → Prop
  | .un => True
  | .d x => RD K wd H v x
  | .ol xs => ∃ a vs, v = .ref a ∧ H a = some (.lst vs) ∧ RDs K wd H vs xs
  | .ll xs => ∃ a vs, v = .ref a ∧ H a = some (.lst vs) ∧ RDs K wd H vs xs
  | .od kvs => ∃ a es ep, v = .ref a ∧ H a = some (dxO a es ep) ∧ DOk K wd H a es kvs
  | .ld kvs => ∃ a es ep, v = .ref a ∧ H a = some (dxO a es ep) ∧ DOk K wd H a es kvs
  | .fn f => v = .ref (fa f)
/-- the addresses that slots own, that they may change -/
def Ho (σ : L2.St) (ρ : Sl) (i : Nat) (a : Addr) : Prop := ∃ w, ρ[i]? = some w ∧ w.hold = true ∧ σ[i]? = some (some (.ref a))
def Ow (σ : L2.St) (ρ : Sl) (a : Addr) : Prop := ∃ (i : Nat) (w : W), ρ[i]? = some w ∧ w.own = true ∧ σ[i]? = some (some (.ref a))
theorem Ow.ho {σ : L2.St} {ρ : Sl} {a : Addr} (h : Ow σ ρ a) : ∃ i, Ho σ ρ i a := by
  obtain ⟨i, w, h1, h2, h3⟩ := h
  exact ⟨i, w, h1, W.hold_of_own h2, h3⟩
structure SR (σ : L2.St) (ρ : Sl) (H : Hp) : Prop where
  len : ρ.length = σ.length
  rw : ∀ (i : Nat) (w : W), ρ[i]? = some w → w = .un ∨ ∃ v, σ[i]? = some (some v) ∧ RW K wd fa H v w
  ap : ∀ (i j : Nat) (a : Addr), Ho σ ρ i a → Ho σ ρ j a → i = j
  tab : fa 999999 ≠ 0 → LamX.TabS H (fa 999999) lamQ
/-- a step: of the slots and the heap -/
structure Stp (σ : L2.St) (ρ : Sl) (H : Hp) (σ' : L2.St) (ρ' : Sl) (H' : Hp) : Prop where
  sr : SR K wd fa σ' ρ' H'
  mo : Mo H H'
  ko : ∀ b o, H b = some o → Mut (some o) → ¬ Ow σ ρ b → H' b = some o
  ow : ∀ b, Ow σ' ρ' b → Ow σ ρ b ∨ H b = none
  ho : ∀ b, (∃ i, Ho σ' ρ' i b) → (∃ i, Ho σ ρ i b) ∨ H b = none
  dom : ∀ b, H' b = none → H b = none
theorem Stp.refl {σ : L2.St} {ρ : Sl} {H : Hp} (s : SR K wd fa σ ρ H) : Stp K wd fa σ ρ H σ ρ H :=
  ⟨s, Mo.refl H, fun _ _ h _ _ => h, fun _ h => .inl h, fun _ h => .inl h, fun _ h => h⟩
variable {K wd fa}
theorem Stp.trans {σ σ1 σ2 : L2.St} {ρ ρ1 ρ2 : Sl} {H H1 H2 : Hp} (a : Stp K wd fa σ ρ H σ1 ρ1 H1) (b : Stp K wd fa σ1 ρ1 H1 σ2 ρ2 H2) : Stp K wd fa σ ρ H σ2 ρ2 H2 where
  sr := b.sr
  mo := a.mo.trans b.mo
  ko := fun c o h m n => b.ko c o (a.ko c o h m n) m fun z => by
    rcases a.ow c z with q | q
    · exact n q
    · rw [h] at q; cases q
  ow := fun c z => by
    rcases b.ow c z with q | q
    · exact a.ow c q
    · exact .inr (a.dom c q)
  ho := fun c z => by
    rcases b.ho c z with q | q
    · exact a.ho c q
    · exact .inr (a.dom c q)
  dom := fun c h => a.dom c (b.dom c h)

/-- an operand's value -/
def AR (σ : L2.St) (H : Hp) (v : V) : A → Prop
  | .v x => RD K wd H v x
  | .s i => σ[i]? = some (some v)
  | .f f => v = .ref (fa f)
theorem AR.mono {σ : L2.St} {H H' : Hp} {v : V} {a : A} (m : Mo H H') (h : AR (K := K) (wd := wd) (fa := fa) σ H v a) : AR (K := K) (wd := wd) (fa := fa) σ H' v a := by
  cases a with
  | v x => exact RD.mono m x v h
  | s i => exact h
  | f f => exact h
def ARs (σ : L2.St) (H : Hp) : List V → List A → Prop
  | [], [] => True
  | v :: vs, a :: as => AR (K := K) (wd := wd) (fa := fa) σ H v a ∧ ARs σ H vs as
  | _, _ => False
theorem ARs.mono {σ : L2.St} {H H' : Hp} (m : Mo H H') : ∀ {vs : List V} {as : List A}, ARs (K := K) (wd := wd) (fa := fa) σ H vs as → ARs (K := K) (wd := wd) (fa := fa) σ H' vs as
  | [], [], h => h
  | _ :: _, _ :: _, h => ⟨h.1.mono m, ARs.mono m h.2⟩
  | [], _ :: _, h => h.elim
  | _ :: _, [], h => h.elim
/-- a result: new, or owned by no slot any more -/
structure WR (σ : L2.St) (ρ : Sl) (H : Hp) (ρ' : Sl) (H' : Hp) (v : V) (w : W) : Prop where
  rw : RW K wd fa H' v w
  nun : w ≠ .un
  lk : w.hold = w.own
  fr : ∀ a, w.own = true → v = .ref a → (H a = none ∨ Ow σ ρ a) ∧ ∀ i, ¬ Ho σ ρ' i a

/-- what is to be shown of an outcome -/
def Rdg {α : Type} (Ex : Nat → Hp → Prop) (x : O α) (σ : L2.St) (ρ : Sl) (H : Hp) (k : α → Sl → Hp → Prop) : Prop :=
  match x with
  | .ok a ρ' => ∀ H', Stp K wd fa σ ρ H σ ρ' H' → k a ρ' H'
  | .ex c ρ' => ∀ H', Stp K wd fa σ ρ H σ ρ' H' → Ex c H'
  | .bad => False
variable {Ex : Nat → Hp → Prop} {α β : Type} {σ : L2.St} {ρ ρ1 : Sl} {H H1 : Hp}
theorem Rdg.imp {x : O α} {k k' : α → Sl → Hp → Prop} (h : Rdg (K := K) (wd := wd) (fa := fa) Ex x σ ρ H k) (f : ∀ a ρ' H', Stp K wd fa σ ρ H σ ρ' H' → k a ρ' H' → k' a ρ' H') : Rdg (K := K) (wd := wd) (fa := fa) Ex x σ ρ H k' := by
  cases x with
  | ok a ρ' => exact fun H' s => f a ρ' H' s (h H' s)
  | ex c ρ' => exact h
  | bad => exact h
theorem Rdg.bind {x : O α} {f : α → Sl → O β} {k : β → Sl → Hp → Prop} (h : Rdg (K := K) (wd := wd) (fa := fa) Ex (x.bind f) σ ρ H k) :
    Rdg (K := K) (wd := wd) (fa := fa) Ex x σ ρ H fun a ρ1 H1 => Rdg (K := K) (wd := wd) (fa := fa) Ex (f a ρ1) σ ρ1 H1 k := by
  cases x with
  | ok a ρ1 =>
    intro H1 s1
    have h : Rdg (K := K) (wd := wd) (fa := fa) Ex (f a ρ1) σ ρ H k := h
    cases e : f a ρ1 with
    | ok b ρ2 =>
      rw [e] at h
      exact fun H2 s2 => h H2 (s1.trans s2)
    | ex c ρ2 =>
      rw [e] at h
      exact fun H2 s2 => h H2 (s1.trans s2)
    | bad => rw [e] at h; exact h
  | ex c ρ1 => exact h
  | bad => exact h
/-- from a later point -/
theorem Rdg.later {x : O α} {k : α → Sl → Hp → Prop} (s : Stp K wd fa σ ρ H σ ρ1 H1) (h : Rdg (K := K) (wd := wd) (fa := fa) Ex x σ ρ H k) : Rdg (K := K) (wd := wd) (fa := fa) Ex x σ ρ1 H1 k := by
  cases x with
  | ok a ρ' => exact fun H' s' => h H' (s.trans s')
  | ex c ρ' => exact fun H' s' => h H' (s.trans s')
  | bad => exact h
end

/-! ### the readings -/
section
variable (K : PySem.W.Frag) (wd : World) (fa : Nat → Addr) (Ex : Nat → Hp → Prop)
def rdW (f : Sl → O W) : TE := fun σ H Q => ∃ ρ, SR K wd fa σ ρ H ∧ Rdg (K := K) (wd := wd) (fa := fa) Ex (f ρ) σ ρ H fun w ρ' H' => ∀ v, WR (K := K) (wd := wd) (fa := fa) σ ρ H ρ' H' v w → Q v H'
def rdA (f : Sl → O A) : TE := fun σ H Q => ∃ ρ, SR K wd fa σ ρ H ∧ Rdg (K := K) (wd := wd) (fa := fa) Ex (f ρ) σ ρ H fun a _ H' => ∀ v, AR (K := K) (wd := wd) (fa := fa) σ H' v a → Q v H'
def rdD (f : Sl → O D) : TE := fun σ H Q => ∃ ρ, SR K wd fa σ ρ H ∧ Rdg (K := K) (wd := wd) (fa := fa) Ex (f ρ) σ ρ H fun x _ H' => ∀ v, RD K wd H' v x → Q v H'
def rdT (f : Sl → O Bool) : TT := fun σ H Q => ∃ ρ, SR K wd fa σ ρ H ∧ Rdg (K := K) (wd := wd) (fa := fa) Ex (f ρ) σ ρ H fun t _ H' => Q t H'
def rdAs (f : Sl → O (List A)) : TA := fun σ H Q => ∃ ρ, SR K wd fa σ ρ H ∧ Rdg (K := K) (wd := wd) (fa := fa) Ex (f ρ) σ ρ H fun as _ H' => ∀ vs, ARs (K := K) (wd := wd) (fa := fa) σ H' vs as → Q vs H'
def rdDs (f : Sl → O (List D)) : TA := fun σ H Q => ∃ ρ, SR K wd fa σ ρ H ∧ Rdg (K := K) (wd := wd) (fa := fa) Ex (f ρ) σ ρ H fun xs _ H' => ∀ vs, RDs K wd H' vs xs → Q vs H'
end
theorem PE.weak {X : Cx} {e : Expr} {t t' : TE} (h : PE X e t) (f : ∀ σ H Q, t' σ H Q → t σ H Q) : PE X e t' := ⟨fun pins s σ H Q I q => h.run pins s σ H Q I (f σ H Q q)⟩
theorem PT.weak {X : Cx} {e : Expr} {t t' : TT} (h : PT X e t) (f : ∀ σ H Q, t' σ H Q → t σ H Q) : PT X e t' := ⟨fun pins s σ H Q I q => h.run pins s σ H Q I (f σ H Q q)⟩
theorem PA.weak {X : Cx} {e : List Expr} {t t' : TA} (h : PA X e t) (f : ∀ σ H Q, t' σ H Q → t σ H Q) : PA X e t' := ⟨fun pos pins s σ H Q I q => h.run pos pins s σ H Q I (f σ H Q q)⟩
theorem PS.weak {X : Cx} {e : Stmt} {t t' : TS} (h : PS X e t) (f : ∀ D σ H, t' D σ H → t D σ H) : PS X e t' := ⟨fun pins s σ H D I q => h.run pins s σ H D I (f D σ H q)⟩
theorem PSs.weak {X : Cx} {e : List Stmt} {t t' : TS} (h : PSs X e t) (f : ∀ D σ H, t' D σ H → t D σ H) : PSs X e t' := ⟨fun pins s σ H D I q => h.run pins s σ H D I (f D σ H q)⟩

section
variable {K : PySem.W.Frag} {wd : World} {fa : Nat → Addr} {σ : L2.St} {ρ : Sl} {H : Hp}
/-- an object that may change, no code object -/
def MuA (a : Addr) (u : HO) : Prop := Mut (some u) ∧ ∀ q, u ≠ LamX.CodeO a q
theorem mu_l {a : Addr} {xs : List V} : MuA a (.lst xs) := ⟨trivial, fun q z => by unfold LamX.CodeO at z; cases z⟩
theorem mu_d {a : Addr} {es : Array DictEntry} {ep : Nat} : MuA a (dxO a es ep) := ⟨trivial, fun q z => by
  unfold dxO LamX.CodeO at z
  have e2 := congrFun (HO.ext.inj z) { objs := Array.replicate (a + 1) { cls := .none, data := .fields #[.none, .str q 0] } }
  have g : Heap.get? { objs := Array.replicate (a + 1) { cls := .none, data := .fields #[.none, .str q 0] } } a = some { cls := .none, data := .fields #[.none, .str q 0] } := by simp [Heap.get?]
  have t : ∃ (oc : Obj) (vs : Array Value) (t : Tok), Heap.get? { objs := Array.replicate (a + 1) { cls := .none, data := .fields #[.none, .str q 0] } } a = some oc ∧ oc.data = .fields vs ∧ vs[1]? = some (.str q t) := ⟨_, _, 0, g, rfl, rfl⟩
  rw [← e2] at t
  obtain ⟨o, ho, _, hd⟩ := t
  rw [g] at ho
  cases ho
  cases hd⟩
/-- a table stands when such an object is written -/
theorem tab_write {H : Hp} {a P : Addr} {u o : HO} {q : Str} (e : H a = some u) (m : MuA a u) (t : LamX.TabS H P q) : LamX.TabS (upd H a o) P q := by
  obtain ⟨ps, h1, h2, h3⟩ := t
  refine ⟨ps, ?_, h2, fun pos cv hc => ?_⟩
  · rw [upd_ne (fun z => by rw [z, e] at h1; cases h1; exact m.1)]; exact h1
  · obtain ⟨c, e1, e2⟩ := h3 pos cv hc
    refine ⟨c, e1, ?_⟩
    rw [upd_ne (fun z => by rw [z, e] at e2; exact m.2 q (Option.some.inj e2))]; exact e2
/-- a new object that no slot holds -/
theorem Mo.new {p : Addr} {o : HO} (h : H p = none) : Mo H (upd H p o) := by
  refine ⟨fun a xs e => ?_, fun a o u e => ?_, fun P t => t.ext fun b o e => ?_⟩
  · rw [upd_ne (ne_of_none e h)]; exact e
  · rw [upd_ne (ne_of_none e h)]; exact e
  · rw [upd_ne (ne_of_none e h)]; exact e
theorem RW.mono {H' : Hp} {v : V} {w : W} (m : Mo H H') (k : ∀ a o, v = .ref a → w.hold = true → H a = some o → H' a = some o) (h : RW K wd fa H v w) : RW K wd fa H' v w := by
  cases w with
  | un => trivial
  | d x => exact RD.mono m x v h
  | fn f => exact h
  | ol xs =>
    obtain ⟨a, vs, e, h1, h2⟩ := h
    exact ⟨a, vs, e, k a _ e rfl h1, RDs.mono m xs vs h2⟩
  | ll xs =>
    obtain ⟨a, vs, e, h1, h2⟩ := h
    exact ⟨a, vs, e, k a _ e rfl h1, RDs.mono m xs vs h2⟩
  | od kvs =>
    obtain ⟨a, es, ep, e, h1, h2⟩ := h
    exact ⟨a, es, ep, e, k a _ e rfl h1, REs.mono m kvs _ h2.ents, h2.nosys, h2.nd, h2.len, h2.tu⟩
  | ld kvs =>
    obtain ⟨a, es, ep, e, h1, h2⟩ := h
    exact ⟨a, es, ep, e, k a _ e rfl h1, REs.mono m kvs _ h2.ents, h2.nosys, h2.nd, h2.len, h2.tu⟩
/-- a held object stands -/
theorem RW.there {v : V} {w : W} {a : Addr} (h : RW K wd fa H v w) (hh : w.hold = true) (e : v = .ref a) : ∃ o, H a = some o ∧ Mut (some o) := by
  cases w <;> simp [W.hold] at hh
  all_goals first
    | (obtain ⟨b, vs, e', h1, h2⟩ := h; rw [e] at e'; cases e'; exact ⟨_, h1, trivial⟩)
    | (obtain ⟨b, es, ep, e', h1, h2⟩ := h; rw [e] at e'; cases e'; exact ⟨_, h1, trivial⟩)
theorem SR.there {i : Nat} {a : Addr} (s : SR K wd fa σ ρ H) (h : Ho σ ρ i a) : ∃ o, H a = some o ∧ Mut (some o) := by
  obtain ⟨w, h1, h2, h3⟩ := h
  rcases s.rw i w h1 with e | ⟨v, e, r⟩
  · rw [e] at h2; cases h2
  · rw [h3] at e; cases e
    exact r.there h2 rfl
theorem SR.mono {H' : Hp} (s : SR K wd fa σ ρ H) (m : Mo H H') (k : ∀ i a o, Ho σ ρ i a → H a = some o → H' a = some o) : SR K wd fa σ ρ H' := by
  refine ⟨s.len, fun i w e => ?_, s.ap, fun h => m.tab _ (s.tab h)⟩
  rcases s.rw i w e with h | ⟨v, h1, h2⟩
  · exact .inl h
  · exact .inr ⟨v, h1, h2.mono m fun a o e1 hh e2 => k i a o ⟨w, e, hh, by rw [h1, e1]⟩ e2⟩
/-- something new is laid -/
theorem Stp.new {p : Addr} {o : HO} (s : SR K wd fa σ ρ H) (h : H p = none) : Stp K wd fa σ ρ H σ ρ (upd H p o) where
  sr := s.mono (Mo.new h) fun i a o' q e => by rw [upd_ne (ne_of_none e h)]; exact e
  mo := Mo.new h
  ko := fun b o' e _ _ => by rw [upd_ne (ne_of_none e h)]; exact e
  ow := fun _ z => .inl z
  ho := fun _ z => .inl z
  dom := fun b e => by
    by_cases hb : b = p
    · rw [hb]; exact h
    · rw [upd_ne hb] at e; exact e
theorem SR.noHo {p : Addr} (s : SR K wd fa σ ρ H) (h : H p = none) (i : Nat) : ¬ Ho σ ρ i p := fun z => by
  obtain ⟨o, e, _⟩ := s.there z
  rw [h] at e; cases e
/-- a new tuple, a new list as results -/
theorem WR.tup {p : Addr} {vs : List V} {xs : List D} (h : H p = none) (r : RDs K wd H vs xs) : WR (K := K) (wd := wd) (fa := fa) σ ρ H ρ (upd H p (.tup vs)) (.ref p) (.d (.tuple xs)) :=
  ⟨.tup (.inl (.inl upd_same)) (RDs.mono (Mo.new h) _ _ r), (by intro z; cases z), rfl, fun a z => nomatch z⟩
theorem WR.lst {p : Addr} {vs : List V} {xs : List D} (s : SR K wd fa σ ρ H) (h : H p = none) (r : RDs K wd H vs xs) : WR (K := K) (wd := wd) (fa := fa) σ ρ H ρ (upd H p (.lst vs)) (.ref p) (.ol xs) :=
  ⟨⟨p, vs, rfl, upd_same, RDs.mono (Mo.new h) _ _ r⟩, (by intro z; cases z), rfl, fun a _ z => by cases z; exact ⟨.inl h, s.noHo h⟩⟩
theorem WR.dat {v : V} {x : D} (r : RD K wd H v x) {σ' : L2.St} {ρ' ρ'' : Sl} {H' : Hp} : WR (K := K) (wd := wd) (fa := fa) σ' ρ' H' ρ'' H v (.d x) := ⟨r, (by intro z; cases z), rfl, fun a z => nomatch z⟩
end
end FF
end
section
set_option Elab.async false
set_option linter.all false
set_option maxRecDepth 100000
set_option maxHeartbeats 1000000
/-! FE: freezing; names, constants. -/
namespace FF
open PySem PySem.Spec PyProof.Rows L2 PySem.W

theorem dxO_tup {a : Addr} {es : Array DictEntry} {ep : Nat} {xs : List V} : dxO a es ep ≠ .tup xs := fun z => by unfold dxO at z; cases z
theorem dxO_frz {a : Addr} {es : Array DictEntry} {ep : Nat} {o : Obj} {u : HO} : dxO a es ep ≠ .frz o u := fun z => by unfold dxO at z; cases z
section
variable {K : PySem.W.Frag} {wd : World} {fa : Nat → Addr} {σ : L2.St} {ρ ρ' : Sl} {H H' : Hp}
theorem Mo.freeze {a : Addr} {u : HO} {o : Obj} (e : H a = some u) (m : MuA a u) : Mo H (upd H a (.frz o u)) := by
  refine ⟨fun b xs q => ?_, fun b o u' q => ?_, fun P t => tab_write e m t⟩
  · rw [upd_ne (fun z => by rw [z, e] at q; cases q; exact m.1)]; exact q
  · rw [upd_ne (fun z => by rw [z, e] at q; cases q; exact m.1)]; exact q
theorem Stp.freeze {a : Addr} {u : HO} {o : Obj} (s : Stp K wd fa σ ρ H σ ρ' H') (e : H' a = some u) (m : MuA a u) (h1 : H a = none ∨ Ow σ ρ a) (h2 : ∀ i, ¬ Ho σ ρ' i a) :
    Stp K wd fa σ ρ H σ ρ' (upd H' a (.frz o u)) where
  sr := s.sr.mono (Mo.freeze e m) fun i b o' q r => by
    rw [upd_ne (fun z => h2 i (by rw [← z]; exact q))]; exact r
  mo := s.mo.trans (Mo.freeze e m)
  ko := fun b o' q r n => by
    have hb : b ≠ a := fun z => by
      rcases h1 with h | h
      · rw [z, h] at q; cases q
      · exact n (z ▸ h)
    rw [upd_ne hb]; exact s.ko b o' q r n
  ow := s.ow
  ho := s.ho
  dom := fun b q => by
    by_cases hb : b = a
    · rw [hb, upd_same] at q; cases q
    · rw [upd_ne hb] at q; exact s.dom b q
theorem RD.of_list {a : Addr} {vs : List V} {xs : List D} {o : Obj} (e : H a = some (.lst vs)) (r : RDs K wd H vs xs) : RD K wd (upd H a (.frz o (.lst vs))) (.ref a) (.list xs) :=
  .lst (.inl ⟨o, upd_same⟩) (RDs.mono (Mo.freeze e mu_l) _ _ r)
theorem RD.of_dict {a : Addr} {es : Array DictEntry} {ep : Nat} {kvs : List (D × D)} {o : Obj} (e : H a = some (dxO a es ep)) (r : DOk K wd H a es kvs) : RD K wd (upd H a (.frz o (dxO a es ep))) (.ref a) (.dict kvs) :=
  .dct upd_same rfl (REs.mono (Mo.freeze e mu_d) _ _ r.ents) r.nosys r.nd r.len r.tu
end

section
variable {X : Cx} {fa : Nat → Addr} {Ex : Nat → Hp → Prop}
/-- a result taken as data -/
theorem pe_dat {e : Expr} {f : Sl → O W} (he : PE X e (rdW X.K X.w fa Ex f)) : PE X e (rdD X.K X.w fa Ex fun ρ => dat (f ρ)) := by
  refine ⟨fun pins s σ H Q I h => ?_⟩
  obtain ⟨ρ, sr, h⟩ := h
  dsimp only at h
  cases ef : f ρ with
  | bad => rw [ef] at h; exact h.elim
  | ex c ρ' =>
    rw [ef] at h
    exact he.run pins s σ H Q I ⟨ρ, sr, by rw [ef]; exact h⟩
  | ok w ρ' =>
    rw [ef] at h
    refine thn (he.run pins s σ H (fun v H' => Stp X.K X.w fa σ ρ H σ ρ' H' ∧ WR (K := X.K) (wd := X.w) (fa := fa) σ ρ H ρ' H' v w) I ⟨ρ, sr, by rw [ef]; exact fun H' st v wr => ⟨st, wr⟩⟩) fun u s1 ⟨v, H1, I1, r1, st, wr⟩ => ?_
    cases w with
    | un => exact h.elim
    | fn f => exact h.elim
    | ll xs => exact h.elim
    | ld xs => exact h.elim
    | d x => exact ⟨v, H1, I1, r1, h H1 st v wr.rw⟩
    | ol xs =>
      obtain ⟨a, vs, e, h1, h2⟩ := wr.rw
      subst e
      obtain ⟨g1, g2⟩ := wr.fr a rfl rfl
      obtain ⟨od, I2⟩ := I1.lock h1 trivial
      exact ⟨.ref a, _, I2, r1, h _ (st.freeze h1 mu_l g1 g2) _ (RD.of_list h1 h2)⟩
    | od kvs =>
      obtain ⟨a, es, ep, e, h1, h2⟩ := wr.rw
      subst e
      obtain ⟨g1, g2⟩ := wr.fr a rfl rfl
      obtain ⟨od, I2⟩ := I1.lock h1 trivial
      exact ⟨.ref a, _, I2, r1, h _ (st.freeze h1 mu_d g1 g2) _ (RD.of_dict h1 h2)⟩
/-- .. as an operand -/
theorem pe_opd {e : Expr} {f : Sl → O D} (he : PE X e (rdD X.K X.w fa Ex f)) : PE X e (rdA X.K X.w fa Ex fun ρ => match f ρ with
    | .ok x ρ => .ok (.v x) ρ
    | .ex c ρ => .ex c ρ
    | .bad => .bad) := by
  refine PE.weak he fun σ H Q h => ?_
  obtain ⟨ρ, sr, h⟩ := h
  refine ⟨ρ, sr, ?_⟩
  dsimp only at h
  cases ef : f ρ with
  | bad => rw [ef] at h; exact h.elim
  | ex c ρ' => rw [ef] at h; exact h
  | ok x ρ' => rw [ef] at h; exact fun H' st v r => h H' st v r

theorem SR.at {K : PySem.W.Frag} {wd : World} {σ : L2.St} {ρ : Sl} {H : Hp} (s : SR K wd fa σ ρ H) {i : Nat} {w : W} (e : ρ[i]? = some w) (n : w ≠ .un) : ∃ v, σ[i]? = some (some v) ∧ RW K wd fa H v w := by
  rcases s.rw i w e with h | h
  · exact absurd h n
  · exact h
/-- a slot's content put in place of another, its heap as it is -/
theorem get_set {ρ : Sl} {i j : Nat} {w w' : W} (e : (ρ.set i w)[j]? = some w') : (j = i ∧ w' = w ∧ i < ρ.length) ∨ (j ≠ i ∧ ρ[j]? = some w') := by
  by_cases h : i = j
  · subst h
    by_cases hi : i < ρ.length
    · rw [List.getElem?_set_self hi] at e; cases e; exact .inl ⟨rfl, rfl, hi⟩
    · rw [List.getElem?_eq_none (by simpa using hi)] at e; cases e
  · rw [List.getElem?_set_ne h] at e; exact .inr ⟨fun z => h z.symm, e⟩
theorem Ho.of_set {σ : L2.St} {ρ : Sl} {i j : Nat} {w : W} {a : Addr} (h : Ho σ (ρ.set i w) j a) : (j = i ∧ w.hold = true ∧ σ[i]? = some (some (.ref a))) ∨ (j ≠ i ∧ Ho σ ρ j a) := by
  obtain ⟨w', e, hh, hs⟩ := h
  rcases get_set e with ⟨rfl, rfl, _⟩ | ⟨n, e⟩
  · exact .inl ⟨rfl, hh, hs⟩
  · exact .inr ⟨n, w', e, hh, hs⟩
theorem Ow.of_set {σ : L2.St} {ρ : Sl} {i : Nat} {w : W} {a : Addr} (h : Ow σ (ρ.set i w) a) : (w.own = true ∧ σ[i]? = some (some (.ref a))) ∨ Ow σ ρ a := by
  obtain ⟨j, w', e, hh, hs⟩ := h
  rcases get_set e with ⟨rfl, rfl, _⟩ | ⟨n, e⟩
  · exact .inl ⟨hh, hs⟩
  · exact .inr ⟨j, w', e, hh, hs⟩
/-- a slot lets go what it owns -/
theorem SR.drop {K : PySem.W.Frag} {wd : World} {σ : L2.St} {ρ : Sl} {H : Hp} (s : SR K wd fa σ ρ H) {i : Nat} {w : W} (nh : w.hold = false) (r : w = .un ∨ ∃ v, σ[i]? = some (some v) ∧ RW K wd fa H v w) : SR K wd fa σ (ρ.set i w) H := by
  refine ⟨by rw [List.length_set]; exact s.len, fun j w' e => ?_, fun j k a h1 h2 => ?_, s.tab⟩
  · rcases get_set e with ⟨rfl, rfl, _⟩ | ⟨_, e⟩
    · exact r
    · exact s.rw j w' e
  · rcases h1.of_set with ⟨_, z, _⟩ | ⟨_, h1⟩
    · rw [nh] at z; cases z
    · rcases h2.of_set with ⟨_, z, _⟩ | ⟨_, h2⟩
      · rw [nh] at z; cases z
      · exact s.ap j k a h1 h2
/-- behind a slot that owned a is set to something that doesn't, none holds a -/
theorem SR.gone {K : PySem.W.Frag} {wd : World} {σ : L2.St} {ρ : Sl} {H : Hp} (s : SR K wd fa σ ρ H) {i : Nat} {w : W} {a : Addr} (h : Ho σ ρ i a) (nh : w.hold = false) : ∀ j, ¬ Ho σ (ρ.set i w) j a := fun j z => by
  rcases z.of_set with ⟨_, q, _⟩ | ⟨n, q⟩
  · rw [nh] at q; cases q
  · exact n (s.ap j i a q h)
theorem Stp.drop {K : PySem.W.Frag} {wd : World} {σ : L2.St} {ρ : Sl} {H : Hp} (s : SR K wd fa σ ρ H) {i : Nat} {w : W} (nh : w.hold = false) (r : w = .un ∨ ∃ v, σ[i]? = some (some v) ∧ RW K wd fa H v w) : Stp K wd fa σ ρ H σ (ρ.set i w) H :=
  ⟨s.drop nh r, Mo.refl H, fun _ _ h _ _ => h, fun b z => by
    rcases z.of_set with ⟨q, _⟩ | q
    · have := W.hold_of_own q
      rw [nh] at this; cases this
    · exact .inl q, fun b ⟨j, z⟩ => by
    rcases z.of_set with ⟨_, q, _⟩ | ⟨_, q⟩
    · rw [nh] at q; cases q
    · exact .inl ⟨j, q⟩, fun _ h => h⟩

section
variable {x : Str} {i : Nat} {pos : Pos} (hN : X.N[i]? = some x) (hv : Vis X.env.scope x) (hd : (x == ("__debug__" : Str)) = false) (hcd : (x == ("__classdict__" : Str)) = false)
include hN hv hd hcd
/-- a name read in place -/
theorem pe_pk : PE X (.Name x pos) (rdA X.K X.w fa Ex (pkVar i)) := by
  refine PE.weak (pe_var hN hv hd hcd) fun σ H Q h => ?_
  obtain ⟨ρ, sr, h⟩ := h
  show ∃ v, σ[i]? = some (some v) ∧ Q v H
  unfold pkVar at h
  cases e : ρ[i]? with
  | none => rw [e] at h; exact h.elim
  | some w =>
    rw [e] at h
    have n : w ≠ .un := by intro z; subst z; exact h.elim
    obtain ⟨v, e1, r⟩ := sr.at e n
    refine ⟨v, e1, ?_⟩
    cases w with
    | un => exact absurd rfl n
    | d y => exact h H (Stp.refl _ _ _ sr) v r
    | fn f => exact h H (Stp.refl _ _ _ sr) v r
    | ol xs => exact h H (Stp.refl _ _ _ sr) v e1
    | od xs => exact h H (Stp.refl _ _ _ sr) v e1
    | ll xs => exact h H (Stp.refl _ _ _ sr) v e1
    | ld xs => exact h H (Stp.refl _ _ _ sr) v e1
/-- a name read as a value -/
theorem pe_rd : PE X (.Name x pos) (rdW X.K X.w fa Ex (rdVar i)) := by
  refine ⟨fun pins s σ H Q I h => ?_⟩
  obtain ⟨ρ, sr, h⟩ := h
  unfold rdVar at h
  cases e : ρ[i]? with
  | none => rw [e] at h; exact h.elim
  | some w =>
    rw [e] at h
    have n : w ≠ .un := by intro z; subst z; exact h.elim
    obtain ⟨v, e1, r⟩ := sr.at e n
    refine thn ((pe_var (pos := pos) hN hv hd hcd).run pins s σ H (fun v' H' => v' = v ∧ H' = H) I ⟨v, e1, rfl, rfl⟩) fun u s1 ⟨v', H', I1, r1, q1, q2⟩ => ?_
    subst q1 q2
    cases w with
    | un => exact absurd rfl n
    | d y => exact ⟨v', H', I1, r1, h H' (Stp.refl _ _ _ sr) v' (WR.dat r)⟩
    | fn f => exact ⟨v', H', I1, r1, h H' (Stp.refl _ _ _ sr) v' ⟨r, (by intro z; cases z), rfl, fun a z => nomatch z⟩⟩
    | ll xs => exact h.elim
    | ld xs => exact h.elim
    | ol xs =>
      obtain ⟨a, vs, e2, h1, h2⟩ := r
      subst e2
      have ho : Ho σ ρ i a := ⟨_, e, rfl, e1⟩
      obtain ⟨od, I2⟩ := I1.lock h1 trivial
      have st1 : Stp X.K X.w fa σ ρ H' σ (ρ.set i .un) H' := Stp.drop sr rfl (.inl rfl)
      have st2 := st1.freeze (o := od) h1 mu_l (.inr ⟨i, _, e, rfl, e1⟩) (sr.gone ho rfl)
      have rd := RD.of_list (K := X.K) (wd := X.w) (o := od) h1 h2
      have st3 : Stp X.K X.w fa σ ρ H' σ ((ρ.set i .un).set i (.d (.list xs))) _ := st2.trans (Stp.drop st2.sr rfl (.inr ⟨_, e1, rd⟩))
      rw [List.set_set] at st3
      exact ⟨.ref a, _, I2, r1, h _ st3 _ (WR.dat rd)⟩
    | od kvs =>
      obtain ⟨a, es, ep, e2, h1, h2⟩ := r
      subst e2
      have ho : Ho σ ρ i a := ⟨_, e, rfl, e1⟩
      obtain ⟨od, I2⟩ := I1.lock h1 trivial
      have st1 : Stp X.K X.w fa σ ρ H' σ (ρ.set i .un) H' := Stp.drop sr rfl (.inl rfl)
      have st2 := st1.freeze (o := od) h1 mu_d (.inr ⟨i, _, e, rfl, e1⟩) (sr.gone ho rfl)
      have rd := RD.of_dict (K := X.K) (wd := X.w) (o := od) h1 h2
      have st3 : Stp X.K X.w fa σ ρ H' σ ((ρ.set i .un).set i (.d (.dict kvs))) _ := st2.trans (Stp.drop st2.sr rfl (.inr ⟨_, e1, rd⟩))
      rw [List.set_set] at st3
      exact ⟨.ref a, _, I2, r1, h _ st3 _ (WR.dat rd)⟩
/-- a name read for the last time -/
theorem pe_mv : PE X (.Name x pos) (rdW X.K X.w fa Ex (mvVar i)) := by
  refine PE.weak (pe_var hN hv hd hcd) fun σ H Q h => ?_
  obtain ⟨ρ, sr, h⟩ := h
  show ∃ v, σ[i]? = some (some v) ∧ Q v H
  unfold mvVar at h
  cases e : ρ[i]? with
  | none => rw [e] at h; exact h.elim
  | some w =>
    rw [e] at h
    have n : w ≠ .un := by intro z; subst z; exact h.elim
    obtain ⟨v, e1, r⟩ := sr.at e n
    refine ⟨v, e1, ?_⟩
    cases w with
    | un => exact absurd rfl n
    | d y => exact h H (Stp.refl _ _ _ sr) v (WR.dat r)
    | fn f => exact h H (Stp.refl _ _ _ sr) v ⟨r, (by intro z; cases z), rfl, fun a z => nomatch z⟩
    | ll xs => exact h.elim
    | ld xs => exact h.elim
    | ol xs =>
      refine h H (Stp.drop sr rfl (.inl rfl)) v ⟨r, (by intro z; cases z), rfl, fun a _ z => ?_⟩
      subst z
      exact ⟨.inr ⟨i, _, e, rfl, e1⟩, sr.gone ⟨_, e, rfl, e1⟩ rfl⟩
    | od xs =>
      refine h H (Stp.drop sr rfl (.inl rfl)) v ⟨r, (by intro z; cases z), rfl, fun a _ z => ?_⟩
      subst z
      exact ⟨.inr ⟨i, _, e, rfl, e1⟩, sr.gone ⟨_, e, rfl, e1⟩ rfl⟩
end
end
end FF
end
section
set_option Elab.async false
set_option linter.all false
set_option maxRecDepth 100000
set_option maxHeartbeats 1000000
/-! FG: operations by values. -/
namespace FF
open PySem PySem.Spec PyProof.Rows L2 PySem.W

section
variable (K : PySem.W.Frag) (wd : World)
/-- what an operand's value holds when the operation comes -/
def RP (H : Hp) (v : V) : D → Prop
  | .list xs => ∃ a vs, v = .ref a ∧ RdL K H a vs ∧ RDs K wd H vs xs
  | .dict kvs => ∃ a es ep, v = .ref a ∧ Rd H a (dxO a es ep) ∧ DOk K wd H a es kvs
  | x => RD K wd H v x
/-- a result by values: as it was, or one new object -/
inductive NewR (H : Hp) : Hp → V → W → Prop
  | same {v : V} {x : D} : RD K wd H v x → NewR H H v (.d x)
  | tup {p : Addr} {vs : List V} {xs : List D} : H p = none → RDs K wd H vs xs → NewR H (upd H p (.tup vs)) (.ref p) (.d (.tuple xs))
  | lst {p : Addr} {vs : List V} {xs : List D} : H p = none → RDs K wd H vs xs → NewR H (upd H p (.lst vs)) (.ref p) (.ol xs)
  | dct {p : Addr} {es : Array DictEntry} {ep : Nat} {kvs : List (D × D)} : H p = none → DOk K wd H p es kvs → NewR H (upd H p (dxO p es ep)) (.ref p) (.od kvs)
def rOp (g : D → D → Option W) : R2 := fun x y H Q => ∃ a b w, RP K wd H x a ∧ RP K wd H y b ∧ g a b = some w ∧ ∀ v H', NewR K wd H H' v w → Q v H'
def rUn (g : D → Option W) : V → Hp → VK → Prop := fun x H Q => ∃ a w, RP K wd H x a ∧ g a = some w ∧ ∀ v H', NewR K wd H H' v w → Q v H'
end
section
variable {K : PySem.W.Frag} {wd : World} {fa : Nat → Addr} {σ : L2.St} {ρ : Sl} {H H' : Hp}
theorem RD.rp {v : V} {x : D} (h : RD K wd H v x) : RP K wd H v x := by
  cases x with
  | list xs => cases h with | lst h1 h2 => exact ⟨_, _, rfl, h1.rd, h2⟩
  | dict kvs => cases h with | dct h1 e0 h2 h3 h4 h5 h6 => exact ⟨_, _, _, rfl, .inr ⟨_, h1⟩, by rw [e0]; exact h2, h3, h4, h5, h6⟩
  | _ => exact h
theorem DOk.mono {a : Addr} {es : Array DictEntry} {kvs : List (D × D)} (m : Mo H H') (h : DOk K wd H a es kvs) : DOk K wd H' a es kvs := ⟨REs.mono m _ _ h.ents, h.nosys, h.nd, h.len, h.tu⟩
theorem RW.rp {v : V} {w : W} {x : D} (h : RW K wd fa H v w) (e : w.data = some x) : RP K wd H v x := by
  cases w <;> simp [W.data] at e <;> subst e
  · exact RD.rp h
  · obtain ⟨a, vs, e, h1, h2⟩ := h; exact ⟨a, vs, e, .inl (.inl h1), h2⟩
  · obtain ⟨a, es, ep, e, h1, h2⟩ := h; exact ⟨a, es, ep, e, .inl h1, h2⟩
  · obtain ⟨a, vs, e, h1, h2⟩ := h; exact ⟨a, vs, e, .inl (.inl h1), h2⟩
  · obtain ⟨a, es, ep, e, h1, h2⟩ := h; exact ⟨a, es, ep, e, .inl h1, h2⟩
theorem AR.rp {v : V} {a : A} {x : D} (s : SR K wd fa σ ρ H) (h : AR (K := K) (wd := wd) (fa := fa) σ H v a) (e : a.at ρ = some x) : RP K wd H v x := by
  cases a with
  | v y => cases e; exact RD.rp h
  | f f => cases e
  | s i =>
    have e : (ρ[i]?).bind W.data = some x := e
    cases ew : ρ[i]? with
    | none => rw [ew] at e; cases e
    | some w =>
      rw [ew] at e
      have e : w.data = some x := e
      obtain ⟨v', e1, r⟩ := s.at ew (by intro z; subst z; cases e)
      have h : σ[i]? = some (some v) := h
      rw [h] at e1; cases e1
      exact r.rp e
theorem NewR.stp {v : V} {w : W} (s : SR K wd fa σ ρ H) (n : NewR K wd H H' v w) : Stp K wd fa σ ρ H σ ρ H' := by
  cases n with
  | same r => exact Stp.refl _ _ _ s
  | tup h r => exact Stp.new s h
  | lst h r => exact Stp.new s h
  | dct h r => exact Stp.new s h
theorem NewR.wr {v : V} {w : W} (s : SR K wd fa σ ρ H) (n : NewR K wd H H' v w) : WR (K := K) (wd := wd) (fa := fa) σ ρ H ρ H' v w := by
  cases n with
  | same r => exact WR.dat r
  | tup h r => exact WR.tup h r
  | lst h r => exact WR.lst s h r
  | dct h r => exact ⟨⟨_, _, _, rfl, upd_same, r.mono (Mo.new h)⟩, (by intro z; cases z), rfl, fun a _ z => by cases z; exact ⟨.inl h, s.noHo h⟩⟩
theorem NewR.wr' {v : V} {w : W} {H₀ : Hp} {ρ₀ : Sl} (st : Stp K wd fa σ ρ₀ H₀ σ ρ H) (n : NewR K wd H H' v w) : WR (K := K) (wd := wd) (fa := fa) σ ρ₀ H₀ ρ H' v w := by
  have r := n.wr st.sr
  refine ⟨r.rw, r.nun, r.lk, fun a h1 h2 => ⟨?_, (r.fr a h1 h2).2⟩⟩
  rcases (r.fr a h1 h2).1 with z | z
  · exact .inl (st.dom a z)
  · exact (st.ow a z).elim .inr .inl
mutual
/-- as the layer's data -/
theorem RD.dp : ∀ (x : D) (v : V), x.plain = true → RD K wd H v x → L2.Dp K H v x
  | .none, _, _, r => by cases r; exact .non
  | .bool b, _, _, r => by cases r; exact .bl b
  | .int i, _, _, r => by cases r; exact .int i
  | .str x, _, _, r => by cases r; exact .str x
  | .list xs, _, hp, r => by
    cases r with
    | lst h1 h2 =>
      exact .lst h1.rd.sq (RDs.dp xs _ (by simpa [PyData.plain] using hp) h2)
  | .tuple xs, _, hp, r => by
    cases r with
    | tup h1 h2 => exact .tup h1 (RDs.dp xs _ (by simpa [PyData.plain] using hp) h2)
  | .dict _, _, hp, _ => by simp [PyData.plain] at hp
theorem RDs.dp : ∀ (xs : List D) (vs : List V), PyData.plainAll xs = true → RDs K wd H vs xs → L2.DpAll K H vs xs
  | [], _, _, r => by cases r; exact .nil
  | x :: xs, _, hp, r => by
    rw [PyData.plainAll, Bool.and_eq_true] at hp
    cases r with
    | cons r1 r2 => exact .cons (RD.dp x _ hp.1 r1) (RDs.dp xs _ hp.2 r2)
end
theorem RP.dp {x : D} {v : V} (hp : x.plain = true) (r : RP K wd H v x) : L2.Dp K H v x := by
  cases x with
  | list xs =>
    obtain ⟨a, vs, e, h1, h2⟩ := r
    subst e
    exact .lst h1.sq (RDs.dp xs vs (by simpa [PyData.plain] using hp) h2)
  | dict kvs => simp [PyData.plain] at hp
  | none => exact RD.dp _ _ hp r
  | bool b => exact RD.dp _ _ hp r
  | int b => exact RD.dp _ _ hp r
  | str b => exact RD.dp _ _ hp r
  | tuple b => exact RD.dp _ _ hp r
end

/-! ### operators -/
section
variable {X : Cx}
theorem _root_.L2.Inv.lstR {pins : List (Addr × Obj)} {σ : L2.St} {H : Hp} {s : Shared} {a : Addr} {xs : List V} (I : Inv X pins σ H s) (h : RdL X.K H a xs) :
    xs.length ≤ sizeLine ∧ ∃ (its : List Value) (n : Nat), Vals xs its ∧ xs.length = its.length ∧ s.heap.get? a = some { cls := .type "list", data := .seq its.toArray n } := by
  rcases h with h | ⟨its, n, h1, h2, h3⟩
  · obtain ⟨z, its, n, r, e⟩ := h.ok I.hok
    exact ⟨z, its, n, r, r.length, e⟩
  · exact ⟨h3, its, n, h2, h2.length, I.kIn _ _ h1⟩
def rCatR (K : PySem.W.Frag) : R2 := fun x y H Q => ∃ l b xs zs, x = .ref l ∧ y = .ref b ∧ RdL K H l xs ∧ RdL K H b zs ∧ xs.length + zs.length ≤ sizeLine ∧ ∀ p, H p = none → Q (.ref p) (upd H p (.lst (xs ++ zs)))
theorem op_catR : OpR X (binaryOp .Add) (rCatR X.K) := by
  intro pins s σ H x y v u Q I rx ry h
  obtain ⟨l, b, xs, zs, rfl, rfl, hH, hB, hz, q⟩ := h
  cases rx
  cases ry
  obtain ⟨z, its, n, r, hl, e⟩ := I.lstR hH
  obtain ⟨z2, its2, n2, r2, hl2, e2⟩ := I.lstR hB
  refine PySem.P.add_list e e2 ?_ (by rw [List.size_toArray, List.size_toArray]; omega)
  have ea : its.toArray ++ its2.toArray = (its ++ its2).toArray := by simp
  rw [ea]
  exact ⟨.ref _, _, I.lnew (t' := s.toks) (r.append r2) (by rw [List.length_append]; omega), rfl, q _ I.fresh⟩
/-- a list, frozen or not, times an int -/
def rRepR (K : PySem.W.Frag) : R2 := fun x y H Q => ∃ l k xs, x = .ref l ∧ y = .int k ∧ RdL K H l xs ∧ -(2 ^ 63) ≤ k ∧ k < 2 ^ 63 ∧ xs.length * k.toNat ≤ sizeLine ∧
  ∀ p, H p = none → Q (.ref p) (upd H p (.lst (List.replicate k.toNat xs).flatten))
theorem op_repR : OpR X (binaryOp .Mult) (rRepR X.K) := by
  intro pins s σ H x y v u Q I rx ry hr
  obtain ⟨l, k, xs, e1, e2, hH, k1, k2, hz, q⟩ := hr
  subst e1
  subst e2
  cases rx
  obtain ⟨t, rfl⟩ := ry
  obtain ⟨_, ws, n, rel, hlen, obj⟩ := I.lstR hH
  have cap : ws.toArray.size * k.toNat ≤ sizeLine := by
    rw [List.size_toArray, ← hlen]
    exact hz
  have c1 : ¬ ws.toArray.size * k.toNat > (2 ^ 63 - 1) / 8 := by
    have e8 : (sizeLine : Nat) ≤ (2 ^ 63 - 1) / 8 := by decide
    exact fun z => absurd (Nat.lt_of_lt_of_le z cap) (by omega)
  have c2 : ¬ (!Builtin.List.listFitsIndex k) = true := fun z => by
    rw [fitsIndex_both k1 k2] at z
    cases z
  have c3 : ¬ Builtin.List.listTooLong (ws.toArray.size * k.toNat) = true := fun z => by
    rw [L2.notLongL cap] at z
    cases z
  have prod : List.foldl (fun a b => a ++ b) #[] (List.replicate (if ws.toArray.isEmpty = true then 0 else k.toNat) ws.toArray) = (List.replicate k.toNat ws).flatten.toArray := by
    have one : ∀ m : Nat, List.foldl (fun a b => a ++ b) #[] (List.replicate m ws.toArray) = (List.replicate m ws).flatten.toArray := fun m => by
      simpa using L2.foldl_rep ws m []
    rw [one]
    cases ws with
    | nil => simp
    | cons a r' => simp
  have tl : s.TypeIs (.ref l) "list" := ⟨_, obj, rfl⟩
  refine wpAny_binaryOp_repeat_ref (T := "list") (U := "int") (by decide) tl (fun s' => typeIs_int s' k t) noFill_list_mul F.fills_int_mul F.slot_int_rmul repeat_list F.slot_int_index.lookup ?_
  refine call_meets F.slot_int_rmul (typeIs_int s k t) F.entry_int_rmul (F.args_int_rmul_2 _ _) (int___rmul___int_list k t l ws.toArray n) ?_
  refine ⟨obj, rfl, tl, ?_⟩
  refine call_meets F.slot_list_mul tl F.entry_list_mul (F.args_list_mul_2 _ _) (AutoListH.list___mul___list_int_3 l ws.toArray n k t c2 c1 c3) ⟨obj, ?_⟩
  rw [prod]
  refine ⟨.ref _, _, I.lnew (t' := s.toks) (rel.rep k.toNat) ?_, rfl, q _ I.fresh⟩
  rw [PyProof.Rows.lm_len_rep_flat, Nat.mul_comm]
  exact hz
end
end FF
end
section
set_option Elab.async false
set_option linter.all false
set_option maxRecDepth 100000
set_option maxHeartbeats 1000000
/-! FH: operators and comparisons of the small syntax. -/
namespace FF
open PySem PySem.Spec PyProof.Rows L2 PySem.W
section
variable {X : Cx}
theorem RP.int {K : PySem.W.Frag} {wd : World} {H : Hp} {v : V} {i : Int} (r : RP K wd H v (.int i)) : v = .int i := by cases r; rfl
theorem RP.str {K : PySem.W.Frag} {wd : World} {H : Hp} {v : V} {i : Str} (r : RP K wd H v (.str i)) : v = .str i := by cases r; rfl
theorem RP.bool {K : PySem.W.Frag} {wd : World} {H : Hp} {v : V} {i : Bool} (r : RP K wd H v (.bool i)) : v = .bl i := by cases r; rfl
theorem RP.none {K : PySem.W.Frag} {wd : World} {H : Hp} {v : V} (r : RP K wd H v .none) : v = .non := by cases r; rfl
theorem RP.tuple {K : PySem.W.Frag} {wd : World} {H : Hp} {v : V} {xs : List D} (r : RP K wd H v (.tuple xs)) : ∃ a vs, v = .ref a ∧ SqT K H a vs ∧ RDs K wd H vs xs := by
  cases r with
  | tup h1 h2 => exact ⟨_, _, rfl, h1, h2⟩
theorem op_imp {f : Value → Value → Sem Value} {r r' : R2} (h : OpR X f r) (i : ∀ x y H Q, r' x y H Q → r x y H Q) : OpR X f r' :=
  fun pins s σ H x y v u Q I rx ry q => h pins s σ H x y v u Q I rx ry (i x y H Q q)
theorem ev_add : OpR X (binaryOp .Add) (rOp X.K X.w (binW .add)) := by
  refine op_imp (OpR.or op_add (OpR.or op_add_str (OpR.or op_catA op_catR))) fun x y H Q h => ?_
  obtain ⟨a, b, w, ra, rb, e, q⟩ := h
  cases a <;> cases b <;> simp only [binW] at e <;> try (cases e; done)
  · cases ra.int; cases rb.int; cases e
    exact .inl ⟨_, _, rfl, rfl, q _ _ (.same (.int _))⟩
  · cases ra.str; cases rb.str
    split at e
    · rename_i hz
      cases e
      exact .inr (.inl ⟨_, _, rfl, rfl, hz, q _ _ (.same (.str _))⟩)
    · cases e
  · obtain ⟨l, vs, rfl, h1, r1⟩ := ra
    obtain ⟨b, us, rfl, h2, r2⟩ := rb
    split at e
    · rename_i hz
      cases e
      refine .inr (.inr (.inr ⟨l, b, vs, us, rfl, rfl, h1, h2, by rw [r1.length, r2.length]; exact hz, fun p hp => q _ _ (.lst hp (r1.append r2))⟩))
    · cases e
  · obtain ⟨l, vs, rfl, h1, r1⟩ := ra.tuple
    obtain ⟨b, us, rfl, h2, r2⟩ := rb.tuple
    split at e
    · rename_i hz
      cases e
      refine .inr (.inr (.inl ⟨l, b, vs, us, rfl, rfl, h1, h2, by rw [r1.length, r2.length]; exact hz, fun z => ?_, fun _ z => ?_, fun _ _ p hp => q _ _ (.tup hp (r1.append r2))⟩))
      · subst z; cases r1; exact q _ _ (.same (.tup h2 r2))
      · subst z; cases r2; exact q _ _ (.same (.tup h1 (by rw [List.append_nil]; exact r1)))
    · cases e
theorem ev_sub : OpR X (binaryOp .Sub) (rOp X.K X.w (binW .sub)) := by
  refine op_imp op_sub fun x y H Q h => ?_
  obtain ⟨a, b, w, ra, rb, e, q⟩ := h
  cases a <;> cases b <;> simp only [binW] at e <;> try (cases e; done)
  cases ra.int; cases rb.int; cases e
  exact ⟨_, _, rfl, rfl, q _ _ (.same (.int _))⟩
theorem ev_fdiv : OpR X (binaryOp .FloorDiv) (rOp X.K X.w (binW .fdiv)) := by
  refine op_imp op_fdivN fun x y H Q h => ?_
  obtain ⟨a, b, w, ra, rb, e, q⟩ := h
  cases a <;> cases b <;> simp only [binW] at e <;> try (cases e; done)
  cases ra.int; cases rb.int
  split at e
  · rename_i hz; cases e; exact ⟨_, _, rfl, rfl, hz, q _ _ (.same (.int _))⟩
  · cases e
theorem ev_mod : OpR X (binaryOp .Mod) (rOp X.K X.w (binW .mod)) := by
  refine op_imp op_modN fun x y H Q h => ?_
  obtain ⟨a, b, w, ra, rb, e, q⟩ := h
  cases a <;> cases b <;> simp only [binW] at e <;> try (cases e; done)
  cases ra.int; cases rb.int
  split at e
  · rename_i hz; cases e; exact ⟨_, _, rfl, rfl, hz, q _ _ (.same (.int _))⟩
  · cases e
theorem ev_pow : OpR X (binaryOp .Pow) (rOp X.K X.w (binW .pow)) := by
  refine op_imp op_pow fun x y H Q h => ?_
  obtain ⟨a, b, w, ra, rb, e, q⟩ := h
  cases a <;> cases b <;> simp only [binW] at e <;> try (cases e; done)
  cases ra.int; cases rb.int
  split at e
  · rename_i hz; cases e
    exact ⟨_, _, rfl, rfl, ⟨hz.1, by omega, Nat.lt_of_lt_of_le hz.2.2 (by decide)⟩, q _ _ (.same (.int _))⟩
  · cases e
theorem repStr_mul (x : Str) (j : Int) (h0 : 0 ≤ j) : PySem.Txt.mul x j = repStr x j.toNat := by
  have one : ∀ (m : Nat) (acc : Array Nat), (List.foldl (fun a b => a ++ b) acc (List.replicate m x.cps)).toList = acc.toList ++ (List.replicate m x.cps.toList).flatten := by
    intro m
    induction m with
    | zero => intro acc; simp
    | succ m ih =>
      intro acc
      rw [List.replicate_succ, List.foldl_cons, ih, List.replicate_succ, List.flatten_cons, Array.toList_append, List.append_assoc]
  have ext : ∀ a b : Str, a.cps.toList = b.cps.toList → a = b := fun a b h => by
    cases a; cases b; simpa using h
  unfold PySem.Txt.mul repStr
  by_cases h1 : j < 1
  · rw [if_pos h1]
    have : j = 0 := by omega
    subst this
    rfl
  · rw [if_neg h1]
    by_cases h2 : (j == 1 || x.length == 0) = true
    · rw [if_pos h2]
      apply ext
      simp only [Bool.or_eq_true, beq_iff_eq] at h2
      rcases h2 with h2 | h2
      · subst h2; simp
      · have : x.cps.toList = [] := by
          have : x.cps.toList.length = 0 := by simpa [Str.length] using h2
          exact List.length_eq_zero_iff.mp this
        rw [this]
        simp
    · rw [if_neg h2]
      apply ext
      rw [one]
      simp
theorem op_mul_str : OpR X (binaryOp .Mult) (fun x y H Q => ∃ i j, x = .str i ∧ y = .int j ∧ i.length ≤ 1000 ∧ 0 ≤ j ∧ j ≤ 1000 ∧ Q (.str (repStr i j.toNat)) H) := by
  intro pins s σ H x y v u Q I rx ry h
  obtain ⟨i, j, e1, e2, h1, h2, h3, q⟩ := h
  subst e1; subst e2
  obtain ⟨t, rfl⟩ := rx
  obtain ⟨t', rfl⟩ := ry
  refine PySem.SB.mul ⟨?_, fun _ _ z => ?_, fun _ _ => ?_⟩ fun t2 k => ?_
  · simp only [Bool.or_eq_false_iff, decide_eq_false_iff_not]
    omega
  · have hj : 1 ≤ j := by omega
    have h4 : (1000 : Int) ≤ (2 ^ 63 - 1) / j := Int.le_ediv_of_mul_le (by omega) (by omega)
    omega
  · have h4 : i.length * j.toNat ≤ 1000 * 1000 := Nat.mul_le_mul h1 (by omega)
    have h5 : sizeLine = 16777216 := sizeLine_eq
    unfold Builtin.Str.tooLong
    exact decide_eq_false (by omega)
  · rw [repStr_mul i j h2]
    exact ⟨.str _, H, I.tok _, ⟨_, rfl⟩, q⟩
theorem ev_mul : OpR X (binaryOp .Mult) (rOp X.K X.w (binW .mul)) := by
  refine op_imp (OpR.or op_mul (OpR.or op_mulW (OpR.or op_mul_str (OpR.or op_repR op_repT)))) fun x y H Q h => ?_
  obtain ⟨a, b, w, ra, rb, e, q⟩ := h
  cases a <;> cases b <;> simp only [binW] at e <;> try (cases e; done)
  · cases ra.int; cases rb.int
    rename_i i j
    split at e
    · rename_i hz
      cases e
      simp only [mulOk, Bool.or_eq_true, Bool.and_eq_true, decide_eq_true_eq] at hz
      rcases hz with hz | hz
      · exact .inl ⟨_, _, rfl, rfl, hz, q _ _ (.same (.int _))⟩
      · exact .inr (.inl ⟨_, _, rfl, rfl, hz, q _ _ (.same (.int _))⟩)
    · cases e
  · cases ra.str; cases rb.int
    split at e
    · rename_i hz
      cases e
      exact .inr (.inr (.inl ⟨_, _, rfl, rfl, hz.1, hz.2.1, hz.2.2, q _ _ (.same (.str _))⟩))
    · cases e
  · obtain ⟨l, vs, rfl, h1, r1⟩ := ra
    cases rb.int
    split at e
    · rename_i hz
      cases e
      exact .inr (.inr (.inr (.inl ⟨l, _, vs, rfl, rfl, h1, hz.1, hz.2.1, by rw [r1.length]; exact hz.2.2, fun p hp => q _ _ (.lst hp (r1.rep _))⟩)))
    · cases e
  · obtain ⟨l, vs, rfl, h1, r1⟩ := ra.tuple
    cases rb.int
    split at e
    · rename_i hz
      cases e
      refine .inr (.inr (.inr (.inr ⟨l, _, vs, rfl, rfl, h1, fun z => hz.1 ?_, hz.2.1, hz.2.2.1, by rw [r1.length]; exact hz.2.2.2, fun p hp => q _ _ (.tup hp (r1.rep _))⟩)))
      subst z
      cases r1
      rfl
    · cases e
end
end FF
end
section
set_option Elab.async false
set_option linter.all false
set_option maxRecDepth 100000
set_option maxHeartbeats 1000000
/-! FI: comparisons, items, slices, truth. -/
namespace FF
open PySem PySem.Spec PyProof.Rows L2 PySem.W
section
variable {X : Cx}
theorem eqOk_plain {a : D} (h : eqOk a = true) : a.plain = true ∧ a.depth ≤ 60 := by
  unfold eqOk at h
  simpa using h
theorem RP.reads {pins : List (Addr × Obj)} {σ : L2.St} {H : Hp} {s : Shared} {v : V} {u : Value} {x : D} (I : Inv X pins σ H s) (r : RP X.K X.w H v x) (hp : x.plain = true) (ru : RelV v u) : ∃ as, Reads s.heap u x as :=
  L2.Dp.reads I x v u (r.dp hp) ru
theorem RP.of_not_dict {K : PySem.W.Frag} {wd : World} {H : Hp} {v : V} {x : D} (r : RP K wd H v x) : True := trivial
def cB (g : D → D → Option Bool) : D → D → Option W := fun x y => (g x y).map fun b => .d (.bool b)
theorem ev_eq (hu : X.A.units + 64 < cLine) : OpR X (compareOp .Eq) (rOp X.K X.w (cB (cmpD .eq))) := by
  intro pins s σ H x y v u Q I rx ry h
  obtain ⟨a, b, w, ra, rb, e, q⟩ := h
  simp only [cB, cmpD] at e
  split at e
  · rename_i hz
    cases e
    rw [Bool.and_eq_true] at hz
    obtain ⟨p1, d1⟩ := eqOk_plain hz.1
    obtain ⟨p2, d2⟩ := eqOk_plain hz.2
    obtain ⟨as, h1⟩ := ra.reads I p1 rx
    obtain ⟨bs, h2⟩ := rb.reads I p2 ry
    exact PySem.SeqAt.eq_plain h1 h2 p1 p2 (by have := Nat.min_le_left a.depth b.depth; omega) ⟨.bl _, H, I, rfl, q _ _ (.same (.bl _))⟩
  · cases e
theorem ev_ne (hu : X.A.units + 64 < cLine) : OpR X (compareOp .NotEq) (rOp X.K X.w (cB (cmpD .ne))) := by
  intro pins s σ H x y v u Q I rx ry h
  obtain ⟨a, b, w, ra, rb, e, q⟩ := h
  simp only [cB, cmpD] at e
  split at e
  · rename_i hz
    cases e
    rw [Bool.and_eq_true] at hz
    obtain ⟨p1, d1⟩ := eqOk_plain hz.1
    obtain ⟨p2, d2⟩ := eqOk_plain hz.2
    obtain ⟨as, h1⟩ := ra.reads I p1 rx
    obtain ⟨bs, h2⟩ := rb.reads I p2 ry
    exact PySem.SeqAt.ne_plain h1 h2 p1 p2 (by have := Nat.min_le_left a.depth b.depth; omega) ⟨.bl _, H, I, rfl, q _ _ (.same (.bl _))⟩
  · cases e
theorem alike_plain : ∀ (a b : D), PySem.W.alike a b = true → True := fun _ _ _ => trivial
theorem op_lt_tup (hu : X.A.units + 64 < cLine) : OpR X (compareOp .Lt) (fun x y H Q => ∃ a b, RP X.K X.w H x a ∧ RP X.K X.w H y b ∧ PySem.W.alike a b = true ∧ a ≠ .none ∧ a.plain = true ∧ b.plain = true ∧ a.depth ≤ 60 ∧ Q (.bl (PySem.W.dataLt a b)) H) := by
  intro pins s σ H x y v u Q I rx ry h
  obtain ⟨a, b, ra, rb, al, nn, p1, p2, d1, q⟩ := h
  obtain ⟨as, h1⟩ := ra.reads I p1 rx
  obtain ⟨bs, h2⟩ := rb.reads I p2 ry
  exact PySem.W.rcLt_alike a b X.A s v u as bs h1 h2 al nn (by have := Nat.min_le_left a.depth b.depth; omega) X.prog X.w _ _ ⟨.bl _, H, I, rfl, q⟩
theorem ev_lt (hu : X.A.units + 64 < cLine) : OpR X (compareOp .Lt) (rOp X.K X.w (cB (cmpD .lt))) := by
  refine op_imp (OpR.or op_lt (OpR.or op_lt_str (op_lt_tup hu))) fun x y H Q h => ?_
  obtain ⟨a, b, w, ra, rb, e, q⟩ := h
  cases a <;> cases b <;> simp only [cB, cmpD] at e <;> try (cases e; done)
  · cases ra.int; cases rb.int; cases e
    exact .inl ⟨_, _, rfl, rfl, q _ _ (.same (.bl _))⟩
  · cases ra.str; cases rb.str; cases e
    exact .inr (.inl ⟨_, _, rfl, rfl, q _ _ (.same (.bl _))⟩)
  · rename_i xs ys
    split at e
    · rename_i hz
      cases e
      simp only [Bool.and_eq_true, decide_eq_true_eq] at hz
      exact .inr (.inr ⟨.tuple xs, .tuple ys, ra, rb, hz.1.1.1, (by intro z; cases z), hz.1.2, hz.2, hz.1.1.2, q _ _ (.same (.bl _))⟩)
    · cases e
theorem ev_le : OpR X (compareOp .LtE) (rOp X.K X.w (cB (cmpD .le))) := by
  refine op_imp op_le fun x y H Q h => ?_
  obtain ⟨a, b, w, ra, rb, e, q⟩ := h
  cases a <;> cases b <;> simp only [cB, cmpD] at e <;> try (cases e; done)
  cases ra.int; cases rb.int; cases e
  exact ⟨_, _, rfl, rfl, q _ _ (.same (.bl _))⟩
theorem ev_gt : OpR X (compareOp .Gt) (rOp X.K X.w (cB (cmpD .gt))) := by
  refine op_imp op_gt fun x y H Q h => ?_
  obtain ⟨a, b, w, ra, rb, e, q⟩ := h
  cases a <;> cases b <;> simp only [cB, cmpD] at e <;> try (cases e; done)
  cases ra.int; cases rb.int; cases e
  exact ⟨_, _, rfl, rfl, q _ _ (.same (.bl _))⟩
theorem ev_ge : OpR X (compareOp .GtE) (rOp X.K X.w (cB (cmpD .ge))) := by
  refine op_imp op_ge fun x y H Q h => ?_
  obtain ⟨a, b, w, ra, rb, e, q⟩ := h
  cases a <;> cases b <;> simp only [cB, cmpD] at e <;> try (cases e; done)
  cases ra.int; cases rb.int; cases e
  exact ⟨_, _, rfl, rfl, q _ _ (.same (.bl _))⟩
theorem ev_isN : OpR X (compareOp .Is) (rOp X.K X.w (cB (cmpD .isN))) := by
  refine op_imp op_isN fun x y H Q h => ?_
  obtain ⟨a, b, w, ra, rb, e, q⟩ := h
  cases b <;> try (cases a <;> cases e; done)
  refine ⟨rb.none, ?_⟩
  cases a with
  | none => cases e; cases ra.none; exact q _ _ (.same (.bl _))
  | bool _ => cases e; cases ra.bool; exact q _ _ (.same (.bl _))
  | int _ => cases e; cases ra.int; exact q _ _ (.same (.bl _))
  | str _ => cases e; cases ra.str; exact q _ _ (.same (.bl _))
  | tuple _ => cases e; obtain ⟨l, vs, rfl, _⟩ := ra.tuple; exact q _ _ (.same (.bl _))
  | list _ => cases e; obtain ⟨l, vs, rfl, _⟩ := ra; exact q _ _ (.same (.bl _))
  | dict _ => cases e; obtain ⟨l, es, ep, rfl, _⟩ := ra; exact q _ _ (.same (.bl _))
theorem ev_notN : OpR X (compareOp .IsNot) (rOp X.K X.w (cB (cmpD .notN))) := by
  refine op_imp op_notN fun x y H Q h => ?_
  obtain ⟨a, b, w, ra, rb, e, q⟩ := h
  cases b <;> try (cases a <;> cases e; done)
  refine ⟨rb.none, ?_⟩
  cases a with
  | none => cases e; cases ra.none; exact q _ _ (.same (.bl _))
  | bool _ => cases e; cases ra.bool; exact q _ _ (.same (.bl _))
  | int _ => cases e; cases ra.int; exact q _ _ (.same (.bl _))
  | str _ => cases e; cases ra.str; exact q _ _ (.same (.bl _))
  | tuple _ => cases e; obtain ⟨l, vs, rfl, _⟩ := ra.tuple; exact q _ _ (.same (.bl _))
  | list _ => cases e; obtain ⟨l, vs, rfl, _⟩ := ra; exact q _ _ (.same (.bl _))
  | dict _ => cases e; obtain ⟨l, es, ep, rfl, _⟩ := ra; exact q _ _ (.same (.bl _))

/-! ### in -/
def rInD (f : Bool → Bool) (K : PySem.W.Frag) (wd : World) : R2 := fun x y H Q => ∃ a b xs, RP K wd H x a ∧ RP K wd H y b ∧ (b = .list xs ∨ b = .tuple xs) ∧ eqOk a = true ∧ eqOk b = true ∧ Q (.bl (f (xs.any fun z => PyData.eqv z a))) H
theorem depth_list (xs : List D) : PyData.depth (.list xs) = PyData.depthAll xs + 1 := by simp [PyData.depth]
theorem depth_tuple (xs : List D) : PyData.depth (.tuple xs) = PyData.depthAll xs + 1 := by simp [PyData.depth]
theorem op_inD (hu : X.A.units + 64 < cLine) : OpR X (compareOp .In) (rInD id X.K X.w) := by
  intro pins s σ H x y v u Q I rx ry h
  obtain ⟨a, b, xs, ra, rb, eb, ha, hb, q⟩ := h
  obtain ⟨p1, d1⟩ := eqOk_plain ha
  obtain ⟨p2, d2⟩ := eqOk_plain hb
  obtain ⟨as, h1⟩ := ra.reads I p1 rx
  obtain ⟨bs, h2⟩ := rb.reads I p2 ry
  have hm : X.A.units + 1 + min (PyData.depthAll xs) a.depth < cLine := by have := Nat.min_le_right (PyData.depthAll xs) a.depth; omega
  rcases eb with rfl | rfl
  · exact PySem.SeqAt.in_list_data h2 h1 (by simpa [PyData.plain] using p2) p1 hm ⟨.bl _, H, I, rfl, q⟩
  · exact PySem.SeqAt.in_tuple_data h2 h1 (by simpa [PyData.plain] using p2) p1 hm ⟨.bl _, H, I, rfl, q⟩
theorem op_notInD (hu : X.A.units + 64 < cLine) : OpR X (compareOp .NotIn) (rInD not X.K X.w) := by
  intro pins s σ H x y v u Q I rx ry h
  obtain ⟨a, b, xs, ra, rb, eb, ha, hb, q⟩ := h
  obtain ⟨p1, d1⟩ := eqOk_plain ha
  obtain ⟨p2, d2⟩ := eqOk_plain hb
  obtain ⟨as, h1⟩ := ra.reads I p1 rx
  obtain ⟨bs, h2⟩ := rb.reads I p2 ry
  have hm : X.A.units + 1 + min (PyData.depthAll xs) a.depth < cLine := by have := Nat.min_le_right (PyData.depthAll xs) a.depth; omega
  rcases eb with rfl | rfl
  · exact PySem.SeqAt.notIn_list_data h2 h1 (by simpa [PyData.plain] using p2) p1 hm ⟨.bl _, H, I, rfl, q⟩
  · exact PySem.SeqAt.notIn_tuple_data h2 h1 (by simpa [PyData.plain] using p2) p1 hm ⟨.bl _, H, I, rfl, q⟩
theorem sign_of {c : Str} (h : c.length = 1) : ∃ n, c = ⟨#[n]⟩ := by
  obtain ⟨⟨l⟩⟩ := c
  cases l with
  | nil => simp [Str.length] at h
  | cons n r =>
    cases r with
    | nil => exact ⟨n, rfl⟩
    | cons m r => simp [Str.length] at h
end
end FF
end
section
set_option Elab.async false
set_option linter.all false
set_option maxRecDepth 100000
set_option maxHeartbeats 1000000
/-! FK: dicts whose keys are tuples. -/
namespace FF
open PySem PySem.Spec PyProof.Rows L2 PySem.W
abbrev NK (prog : Program) (w : World) := nestedKind prog w
section
variable {X : Cx} {pins : List (Addr × Obj)} {σ : L2.St} {H : Hp} {s : Shared}
mutual
theorem RD.nested (I : Inv X pins σ H s) : ∀ (d : D) (v : V) (u : Value) (k : NestedKey), RD X.K X.w H v d → RelV v u → nkey d = some k → NestedIs s.heap k u
  | .none, _, u, k, r, ru, e => by cases r; cases ru; cases e; exact .none
  | .bool b, _, u, k, r, ru, e => by cases r; cases ru; cases e; exact .bool rfl
  | .int i, _, u, k, r, ru, e => by cases r; obtain ⟨t, rfl⟩ := ru; cases e; exact .int _ _
  | .str x, _, u, k, r, ru, e => by cases r; obtain ⟨t, rfl⟩ := ru; cases e; exact .text _ _
  | .list xs, _, u, k, r, ru, e => by cases e
  | .dict xs, _, u, k, r, ru, e => by cases e
  | .tuple xs, _, u, k, r, ru, e => by
    cases r with
    | tup h1 h2 =>
      cases ru
      rw [nkey] at e
      obtain ⟨ks, e1, rfl⟩ := Option.map_eq_some_iff.mp e
      obtain ⟨its, rv, ⟨o, ho, hc, n, hd⟩, _⟩ := I.tuple h1
      exact .tup ho hc hd (by simpa using RDs.nested I xs _ its ks h2 rv e1)
theorem RDs.nested (I : Inv X pins σ H s) : ∀ (ds : List D) (vs : List V) (us : List Value) (ks : List NestedKey), RDs X.K X.w H vs ds → Vals vs us → nkey.nkeys ds = some ks → NestedAll s.heap ks us
  | [], _, us, ks, r, ru, e => by cases r; cases ru; cases e; exact .nil
  | d :: ds, _, us, ks, r, ru, e => by
    cases r with
    | cons r1 r2 =>
      cases ru with
      | cons u1 u2 =>
        rw [nkey.nkeys] at e
        cases e1 : nkey d with
        | none => rw [e1] at e; cases e
        | some k =>
          cases e2 : nkey.nkeys ds with
          | none => rw [e1, e2] at e; cases e
          | some kk =>
            rw [e1, e2] at e
            cases e
            exact .cons (RD.nested I d _ _ _ r1 u1 e1) (RDs.nested I ds _ _ _ r2 u2 e2)
end
/-- the entries, as the library tells them -/
inductive XR (K : PySem.W.Frag) (w : World) (H : Hp) : List (NestedKey × Addr × Value) → List (D × D) → Prop
  | nil : XR K w H [] []
  | cons {k : NestedKey} {b : Addr} {u : Value} {xs : List (NestedKey × Addr × Value)} {kd vd : D} {kvs : List (D × D)} {vv : V} : RD K w H (.ref b) kd → isTup kd = true → nkey kd = some k → k.depth ≤ 8 → RelV vv u → RD K w H vv vd → XR K w H xs kvs →
      XR K w H ((k, b, u) :: xs) ((kd, vd) :: kvs)
theorem REs.xr {K : PySem.W.Frag} {prog : Program} {w : World} {H : Hp} : ∀ {es : List DictEntry} {kvs : List (D × D)}, REs K w H es kvs → (kvs.all fun kv => isTup kv.1) = true → ∃ xs, es = xs.map (entryOfKey (NK prog w)) ∧ XR K w H xs kvs
  | _, _, .nil, _ => ⟨[], rfl, .nil⟩
  | _, _, .cons (e := e) (k := k) h1 h2 h3 h4 h5 h6, t => by
    rw [List.all_cons, Bool.and_eq_true] at t
    obtain ⟨xs, e1, x⟩ := REs.xr h6 t.2
    obtain ⟨kk, k1, k2, k3⟩ := h5.hash
    cases k with
    | tuple ds =>
      cases h2 with
      | tup g1 g2 =>
        rename_i a _
        have ek : e.key = .ref a := h1
        refine ⟨(kk, a, e.val) :: xs, ?_, .cons (.tup g1 g2) rfl k1 k2 h3 h4 x⟩
        rw [List.map_cons, ← e1]
        congr 1
        obtain ⟨eh, ek', ev⟩ := e
        show (⟨eh, ek', ev⟩ : DictEntry) = ⟨kk.hash w, .ref a, ev⟩
        rw [show eh = kk.hash w from k3, show ek' = Value.ref a from ek]
    | _ => exact absurd t.1 (by simp [isTup])
theorem XR.res {K : PySem.W.Frag} {prog : Program} {w : World} {H : Hp} : ∀ {xs : List (NestedKey × Addr × Value)} {kvs : List (D × D)}, XR K w H xs kvs → REs K w H (xs.map (entryOfKey (NK prog w))) kvs
  | _, _, .nil => .nil
  | _, _, .cons (k := k) h1 _ h2 h3 h4 h5 h6 => .cons (kv := .ref _) rfl h1 h4 h5 ⟨k, h2, h3, rfl⟩ h6.res
theorem XR.mono {K : PySem.W.Frag} {w : World} {H H' : Hp} (m : Mo H H') : ∀ {xs : List (NestedKey × Addr × Value)} {kvs : List (D × D)}, XR K w H xs kvs → XR K w H' xs kvs
  | _, _, .nil => .nil
  | _, _, .cons h1 ht h2 h3 h4 h5 h6 => .cons (RD.mono m _ _ h1) ht h2 h3 h4 (RD.mono m _ _ h5) (h6.mono m)
theorem XR.tu {K : PySem.W.Frag} {w : World} {H : Hp} : ∀ {xs : List (NestedKey × Addr × Value)} {kvs : List (D × D)}, XR K w H xs kvs → (kvs.all fun kv => isTup kv.1) = true
  | _, _, .nil => rfl
  | _, _, .cons _ ht _ _ _ _ h6 => by rw [List.all_cons, ht, h6.tu]; rfl
theorem XR.keys {K : PySem.W.Frag} {w : World} {H : Hp} : ∀ {xs : List (NestedKey × Addr × Value)} {kvs : List (D × D)}, XR K w H xs kvs → kvs.map (fun kv => nkey kv.1) = (xs.map (·.1)).map some
  | _, _, .nil => rfl
  | _, _, .cons _ _ h2 _ _ _ h6 => by rw [List.map_cons, List.map_cons, List.map_cons, h6.keys, h2]
theorem XR.length {K : PySem.W.Frag} {w : World} {H : Hp} : ∀ {xs : List (NestedKey × Addr × Value)} {kvs : List (D × D)}, XR K w H xs kvs → xs.length = kvs.length
  | _, _, .nil => rfl
  | _, _, .cons _ _ _ _ _ _ h6 => by rw [List.length_cons, List.length_cons, h6.length]
theorem nd_some {α : Type} {l : List α} : (l.map some).Nodup ↔ l.Nodup := by
  induction l with
  | nil => simp
  | cons a l ih => simp [ih]
/-- what is looked up -/
theorem XR.get {K : PySem.W.Frag} {w : World} {H : Hp} {k : D} {kk : NestedKey} (hk : nkey k = some kk) : ∀ {xs : List (NestedKey × Addr × Value)} {kvs : List (D × D)}, XR K w H xs kvs →
    (atKey xs kk = none ∧ dGet kvs k = none) ∨ ∃ b u vv vd, atKey xs kk = some (b, u) ∧ dGet kvs k = some vd ∧ RelV vv u ∧ RD K w H vv vd
  | _, _, .nil => .inl ⟨rfl, rfl⟩
  | _, _, .cons (k := k') (b := b) (u := u) (kd := kd) (vd := vd) (vv := vv) (kvs := kvs) (xs := xs) h1 ht h2 h3 h4 h5 h6 => by
    have sk : sameKey kd k = decide (k' = kk) := by unfold sameKey; rw [h2, hk]
    by_cases e : k' = kk
    · refine .inr ⟨b, u, vv, vd, ?_, ?_, h4, h5⟩
      · simp [atKey, e]
      · simp [dGet, sk, e]
    · have a1 : atKey ((k', b, u) :: xs) kk = atKey xs kk := by simp [atKey, e]
      have a2 : dGet ((kd, vd) :: kvs) k = dGet kvs k := by simp [dGet, sk, e]
      rw [a1, a2]
      exact h6.get hk
theorem XR.any {K : PySem.W.Frag} {w : World} {H : Hp} {k : D} {kk : NestedKey} (hk : nkey k = some kk) : ∀ {xs : List (NestedKey × Addr × Value)} {kvs : List (D × D)}, XR K w H xs kvs → (kvs.any fun kv => sameKey kv.1 k) = (atKey xs kk).isSome
  | _, _, .nil => rfl
  | _, _, .cons (k := k') (b := b) (u := u) (kd := kd) (xs := xs) h1 ht h2 h3 h4 h5 h6 => by
    have sk : sameKey kd k = decide (k' = kk) := by unfold sameKey; rw [h2, hk]
    by_cases e : k' = kk
    · simp [atKey, e, sk]
    · have a1 : atKey ((k', b, u) :: xs) kk = atKey xs kk := by simp [atKey, e]
      rw [a1, List.any_cons, sk, decide_eq_false e, Bool.false_or]
      exact h6.any hk
theorem XR.putAll {K : PySem.W.Frag} {w : World} {H : Hp} {k v : D} {kk : NestedKey} {u : Value} {vv : V} (hk : nkey k = some kk) (r1 : RelV vv u) (r2 : RD K w H vv v) : ∀ {xs : List (NestedKey × Addr × Value)} {kvs : List (D × D)}, XR K w H xs kvs →
    XR K w H (xs.map (putAt kk u)) (kvs.map fun kv => if sameKey kv.1 k then (kv.1, v) else kv)
  | _, _, .nil => .nil
  | _, _, .cons (k := k') (b := b) (u := u') (kd := kd) (vd := vd) h1 ht h2 h3 h4 h5 h6 => by
    have sk : sameKey kd k = decide (k' = kk) := by unfold sameKey; rw [h2, hk]
    rw [List.map_cons, List.map_cons]
    by_cases e : k' = kk
    · rw [show putAt kk u (k', b, u') = (k', b, u) by simp [putAt, e], show (if sameKey kd k = true then (kd, v) else (kd, vd)) = (kd, v) by simp [sk, e]]
      exact .cons h1 ht h2 h3 r1 r2 (h6.putAll hk r1 r2)
    · rw [show putAt kk u (k', b, u') = (k', b, u') by simp [putAt, e], show (if sameKey kd k = true then (kd, v) else (kd, vd)) = (kd, vd) by simp [sk, e]]
      exact .cons h1 ht h2 h3 h4 h5 (h6.putAll hk r1 r2)
theorem XR.snoc {K : PySem.W.Frag} {w : World} {H : Hp} : ∀ {xs ys : List (NestedKey × Addr × Value)} {kvs ls : List (D × D)}, XR K w H xs kvs → XR K w H ys ls → XR K w H (xs ++ ys) (kvs ++ ls)
  | _, _, _, _, .nil, y => y
  | _, _, _, _, .cons h1 ht h2 h3 h4 h5 h6, y => .cons h1 ht h2 h3 h4 h5 (h6.snoc y)
theorem XR.put {K : PySem.W.Frag} {w : World} {H : Hp} {k v : D} {kk : NestedKey} {b : Addr} {u : Value} {vv : V} {xs : List (NestedKey × Addr × Value)} {kvs : List (D × D)} (x : XR K w H xs kvs) (hk : nkey k = some kk) (ht : isTup k = true) (hd : kk.depth ≤ 8) (rk : RD K w H (.ref b) k) (r1 : RelV vv u) (r2 : RD K w H vv v) :
    XR K w H (storedH xs kk b u) (dPut kvs k v) := by
  unfold storedH dPut
  rw [x.any hk]
  by_cases e : (atKey xs kk).isSome = true
  · rw [if_pos e, if_pos e]
    exact x.putAll hk r1 r2
  · rw [if_neg e, if_neg e]
    exact x.snoc (.cons rk ht hk hd r1 r2 .nil)
/-- the dict in the heap, to the library -/
theorem dict_at (I : Inv X pins σ H s) {a : Addr} {es : Array DictEntry} {ep : Nat} {kvs : List (D × D)} (hd : Rd H a (dxO a es ep)) (d : DOk X.K X.w H a es kvs) :
    ∃ xs, s.heap.DictOfH (NK X.prog X.w) a xs ∧ XR X.K X.w H xs kvs ∧ es.toList = xs.map (entryOfKey (NK X.prog X.w)) := by
  obtain ⟨xs, e, x⟩ := REs.xr (prog := X.prog) d.ents d.tu
  obtain ⟨o, ho, hx, hdat⟩ : s.heap.DictRaw a es ep := (hd.ok I.hok).1
  refine ⟨xs, ⟨o, es, ep, ho, hx, hdat, e, fun y hy => ?_, ?_⟩, x, e⟩
  · have : ∀ {xs : List (NestedKey × Addr × Value)} {kvs : List (D × D)}, XR X.K X.w H xs kvs → ∀ y ∈ xs, (NK X.prog X.w).is s.heap y.1 y.2.1 := by
      intro xs kvs x
      induction x with
      | nil => intro y hy; cases hy
      | cons h1 ht h2 h3 h4 h5 h6 ih =>
        intro y hy
        rcases List.mem_cons.mp hy with e | hy
        · subst e
          exact ⟨RD.nested I _ _ _ _ h1 rfl h2, h3⟩
        · exact ih y hy
    exact this x y hy
  · have := d.nd
    rw [x.keys] at this
    exact nd_some.mp this
theorem keyOk_some {k : D} (h : keyOk k = true) : ∃ kk, nkey k = some kk ∧ kk.depth ≤ 8 := by
  unfold keyOk at h
  cases e : nkey k with
  | none => rw [e] at h; cases h
  | some kk => rw [e] at h; exact ⟨kk, rfl, of_decide_eq_true h⟩
theorem dictOk_parts {kvs : List (D × D)} {k : D} (h : dictOk kvs k = true) : (∃ kk, nkey k = some kk ∧ kk.depth ≤ 8) ∧ isTup k = true ∧ kvs.length < sizeLine := by
  unfold dictOk at h
  simp only [Bool.and_eq_true, decide_eq_true_eq] at h
  exact ⟨keyOk_some h.1.1, h.1.2, h.2⟩
theorem tup_ref {K : PySem.W.Frag} {wd : World} {H : Hp} {v : V} {k : D} (ht : isTup k = true) (r : RD K wd H v k) : ∃ b, v = .ref b := by
  cases k with
  | tuple xs => cases r; exact ⟨_, rfl⟩
  | _ => exact absurd ht (by simp [isTup])
theorem RP.rd_tup {K : PySem.W.Frag} {wd : World} {H : Hp} {v : V} {k : D} (ht : isTup k = true) (r : RP K wd H v k) : RD K wd H v k := by
  cases k with
  | tuple xs => exact r
  | _ => exact absurd ht (by simp [isTup])

/-! ### in, d[k], d[k] = v -/
def rDIn (f : Bool → Bool) (K : PySem.W.Frag) (wd : World) : R2 := fun x y H Q => ∃ k kvs, RP K wd H x k ∧ RP K wd H y (.dict kvs) ∧ dictOk kvs k = true ∧ Q (.bl (f (dGet kvs k).isSome)) H
theorem op_dIn (hu : X.A.units + 64 < cLine) : OpR X (compareOp .In) (rDIn id X.K X.w) := by
  intro pins s σ H x y v u Q I rx ry h
  obtain ⟨k, kvs, rk, rd, ok, q⟩ := h
  obtain ⟨⟨kk, k1, k2⟩, k3, k4⟩ := dictOk_parts ok
  have rk := rk.rd_tup k3
  obtain ⟨b, rfl⟩ := tup_ref k3 rk
  obtain ⟨a, es, ep, rfl, h1, d⟩ := rd
  cases rx
  cases ry
  obtain ⟨xs, hx, xr, _⟩ := dict_at I h1 d
  refine wpAny_in_heap (knd := NK X.prog X.w) (by show X.A.units + 1 + 8 < cLine; omega) ⟨RD.nested I _ _ _ _ rk rfl k1, k2⟩ d.nosys hx ?_
  refine ⟨.bl _, H, I.tok _, ?_, q⟩
  show Value.bool _ = Value.bool _
  rcases xr.get k1 with ⟨e1, e2⟩ | ⟨_, _, _, _, e1, e2, _, _⟩
  · rw [e1, e2]; rfl
  · rw [e1, e2]; rfl
theorem op_dNotIn (hu : X.A.units + 64 < cLine) : OpR X (compareOp .NotIn) (rDIn not X.K X.w) := by
  intro pins s σ H x y v u Q I rx ry h
  obtain ⟨k, kvs, rk, rd, ok, q⟩ := h
  obtain ⟨⟨kk, k1, k2⟩, k3, k4⟩ := dictOk_parts ok
  have rk := rk.rd_tup k3
  obtain ⟨b, rfl⟩ := tup_ref k3 rk
  obtain ⟨a, es, ep, rfl, h1, d⟩ := rd
  cases rx
  cases ry
  obtain ⟨xs, hx, xr, _⟩ := dict_at I h1 d
  refine notIn_keyed (knd := NK X.prog X.w) (kvs := pairsH xs) (by show X.A.units + 1 + 8 < cLine; omega) ⟨RD.nested I _ _ _ _ rk rfl k1, k2⟩ d.nosys ⟨xs, hx, rfl⟩ ?_
  refine ⟨.bl _, H, I.tok _, ?_, q⟩
  show Value.bool _ = Value.bool _
  rw [valueAt_pairsH]
  rcases xr.get k1 with ⟨e1, e2⟩ | ⟨_, _, _, _, e1, e2, _, _⟩
  · rw [e1, e2]; rfl
  · rw [e1, e2]; rfl
theorem ev_in (hu : X.A.units + 64 < cLine) : OpR X (compareOp .In) (rOp X.K X.w (cB (cmpD .isIn))) := by
  refine op_imp (OpR.or (op_inD hu) (OpR.or op_in_sign (op_dIn hu))) fun x y H Q h => ?_
  obtain ⟨a, b, w, ra, rb, e, q⟩ := h
  cases b with
  | list xs =>
    have e : cB (fun a b => if eqOk a && eqOk (.list xs) then some (xs.any fun z => PyData.eqv z a) else none) a (.list xs) = some w := by
      cases a <;> exact e
    simp only [cB] at e
    split at e
    · rename_i hz
      cases e
      rw [Bool.and_eq_true] at hz
      exact .inl ⟨a, _, xs, ra, rb, .inl rfl, hz.1, hz.2, q _ _ (.same (.bl _))⟩
    · cases e
  | tuple xs =>
    have e : cB (fun a b => if eqOk a && eqOk (.tuple xs) then some (xs.any fun z => PyData.eqv z a) else none) a (.tuple xs) = some w := by
      cases a <;> exact e
    simp only [cB] at e
    split at e
    · rename_i hz
      cases e
      rw [Bool.and_eq_true] at hz
      exact .inl ⟨a, _, xs, ra, rb, .inr rfl, hz.1, hz.2, q _ _ (.same (.bl _))⟩
    · cases e
  | dict kvs =>
    have e : cB (fun a b => if dictOk kvs a then some (dGet kvs a).isSome else none) a (.dict kvs) = some w := by
      cases a <;> exact e
    simp only [cB] at e
    split at e
    · rename_i hz
      cases e
      exact .inr (.inr ⟨a, kvs, ra, rb, hz, q _ _ (.same (.bl _))⟩)
    · cases e
  | str z =>
    cases a <;> simp only [cB, cmpD] at e <;> try (cases e; done)
    split at e
    · rename_i c hz
      cases e
      obtain ⟨n, rfl⟩ := sign_of hz
      refine .inr (.inl ⟨n, z, ra.str, rb.str, ?_⟩)
      have := q (.bl (List.all (Str.mk #[n]).cps.toList fun a => z.cps.toList.contains a)) H (.same (.bl _))
      simpa using this
    · cases e
  | none => cases a <;> cases e
  | bool _ => cases a <;> cases e
  | int _ => cases a <;> cases e
theorem ev_notIn (hu : X.A.units + 64 < cLine) : OpR X (compareOp .NotIn) (rOp X.K X.w (cB (cmpD .notIn))) := by
  refine op_imp (OpR.or (op_notInD hu) (OpR.or op_notIn_sign (op_dNotIn hu))) fun x y H Q h => ?_
  obtain ⟨a, b, w, ra, rb, e, q⟩ := h
  cases b with
  | list xs =>
    have e : cB (fun a b => if eqOk a && eqOk (.list xs) then some (!(xs.any fun z => PyData.eqv z a)) else none) a (.list xs) = some w := by
      cases a <;> exact e
    simp only [cB] at e
    split at e
    · rename_i hz
      cases e
      rw [Bool.and_eq_true] at hz
      exact .inl ⟨a, _, xs, ra, rb, .inl rfl, hz.1, hz.2, q _ _ (.same (.bl _))⟩
    · cases e
  | tuple xs =>
    have e : cB (fun a b => if eqOk a && eqOk (.tuple xs) then some (!(xs.any fun z => PyData.eqv z a)) else none) a (.tuple xs) = some w := by
      cases a <;> exact e
    simp only [cB] at e
    split at e
    · rename_i hz
      cases e
      rw [Bool.and_eq_true] at hz
      exact .inl ⟨a, _, xs, ra, rb, .inr rfl, hz.1, hz.2, q _ _ (.same (.bl _))⟩
    · cases e
  | dict kvs =>
    have e : cB (fun a b => if dictOk kvs a then some (!(dGet kvs a).isSome) else none) a (.dict kvs) = some w := by
      cases a <;> exact e
    simp only [cB] at e
    split at e
    · rename_i hz
      cases e
      exact .inr (.inr ⟨a, kvs, ra, rb, hz, q _ _ (.same (.bl _))⟩)
    · cases e
  | str z =>
    cases a <;> simp only [cB, cmpD] at e <;> try (cases e; done)
    split at e
    · rename_i c hz
      cases e
      obtain ⟨n, rfl⟩ := sign_of hz
      refine .inr (.inl ⟨n, z, ra.str, rb.str, ?_⟩)
      have := q (.bl (!(List.all (Str.mk #[n]).cps.toList fun a => z.cps.toList.contains a))) H (.same (.bl _))
      simpa using this
    · cases e
  | none => cases a <;> cases e
  | bool _ => cases a <;> cases e
  | int _ => cases a <;> cases e
end
end FF
end
section
set_option Elab.async false
set_option linter.all false
set_option maxRecDepth 100000
set_option maxHeartbeats 1000000
/-! FL: index, slices, truth, builtins, by values. -/
namespace FF
open PySem PySem.Spec PyProof.Rows L2 PySem.W
section
variable {K : PySem.W.Frag} {wd : World} {fa : Nat → Addr} {σ : L2.St} {ρ : Sl} {H H' : Hp}
theorem RDs.at_ {vs : List V} {ds : List D} {i : Int} {d : D} (r : RDs K wd H vs ds) (e : L2.atI ds i = some d) : ∃ v, L2.atI vs i = some v ∧ RD K wd H v d := by
  unfold L2.atI at e ⊢
  rw [r.length]
  cases e1 : L2.ixN ds.length i with
  | none => rw [e1] at e; cases e
  | some j =>
    rw [e1] at e
    exact r.get e
theorem RDs.cut {vs : List V} {ds : List D} (r : RDs K wd H vs ds) (lo hi : Option Int) : RDs K wd H (L2.cutV vs lo hi) (cutD ds lo hi) := by
  unfold L2.cutV cutD
  rw [r.length]
  exact (r.drop _).take _
theorem RDs.ints : ∀ {vs : List V} {ds : List D} {ns : List Int}, RDs K wd H vs ds → intsD ds = some ns → vs = ns.map V.int
  | _, [], ns, .nil, e => by cases e; rfl
  | _, d :: ds, ns, .cons r t, e => by
    cases d with
    | int i =>
      rw [intsD] at e
      cases e1 : intsD ds with
      | none => rw [e1] at e; cases e
      | some ms =>
        rw [e1] at e
        cases e
        cases r
        rw [RDs.ints t e1]; rfl
    | _ => cases e
theorem RDs.bools : ∀ {vs : List V} {ds : List D} {ns : List Bool}, RDs K wd H vs ds → boolsD ds = some ns → vs = ns.map V.bl
  | _, [], ns, .nil, e => by cases e; rfl
  | _, d :: ds, ns, .cons r t, e => by
    cases d with
    | bool i =>
      rw [boolsD] at e
      cases e1 : boolsD ds with
      | none => rw [e1] at e; cases e
      | some ms =>
        rw [e1] at e
        cases e
        cases r
        rw [RDs.bools t e1]; rfl
    | _ => cases e
theorem RDs.strs : ∀ {vs : List V} {ds : List D} {ns : List Str}, RDs K wd H vs ds → strsD ds = some ns → vs = ns.map V.str
  | _, [], ns, .nil, e => by cases e; rfl
  | _, d :: ds, ns, .cons r t, e => by
    cases d with
    | str i =>
      rw [strsD] at e
      cases e1 : strsD ds with
      | none => rw [e1] at e; cases e
      | some ms =>
        rw [e1] at e
        cases e
        cases r
        rw [RDs.strs t e1]; rfl
    | _ => cases e
theorem RP.list {v : V} {xs : List D} (r : RP K wd H v (.list xs)) : ∃ a vs, v = .ref a ∧ RdL K H a vs ∧ RDs K wd H vs xs := r
/-- values of operands -/
def RPs (K : PySem.W.Frag) (wd : World) (H : Hp) : List V → List D → Prop
  | [], [] => True
  | v :: vs, d :: ds => RP K wd H v d ∧ RPs K wd H vs ds
  | _, _ => False
theorem RPs.one {vs : List V} {d : D} (r : RPs K wd H vs [d]) : ∃ v, vs = [v] ∧ RP K wd H v d := by
  match vs, r with
  | [v], r => exact ⟨v, rfl, r.1⟩
  | [], r => exact r.elim
  | _ :: _ :: _, r => exact r.2.elim
theorem RPs.two {vs : List V} {d e : D} (r : RPs K wd H vs [d, e]) : ∃ v u, vs = [v, u] ∧ RP K wd H v d ∧ RP K wd H u e := by
  match vs, r with
  | [v, u], r => exact ⟨v, u, rfl, r.1, r.2.1⟩
  | [], r => exact r.elim
  | [_], r => exact r.2.elim
  | _ :: _ :: _ :: _, r => exact r.2.2.elim
theorem RPs.nil_ {vs : List V} (r : RPs K wd H vs []) : vs = [] := by
  match vs, r with
  | [], r => rfl
  | _ :: _, r => exact r.elim
def rFn (K : PySem.W.Frag) (wd : World) (g : List D → Option W) : List V → Hp → VK → Prop := fun vs H Q => ∃ xs w, RPs K wd H vs xs ∧ g xs = some w ∧ ∀ v H', NewR K wd H H' v w → Q v H'
theorem call_imp {X : Cx} {f : Value} {r r' : List V → Hp → VK → Prop} (h : CallR X f r) (i : ∀ xs H Q, r' xs H Q → r xs H Q) : CallR X f r' :=
  fun pins s σ H xs us Q I rx q => h pins s σ H xs us Q I rx (i xs H Q q)
end

section
variable {X : Cx}
/-! ### index -/
def rIdx (K : PySem.W.Frag) (wd : World) : R2 := rOp K wd fun x y => (idxD x y).map .d
def rIdxK (K : PySem.W.Frag) (wd : World) : R2 := fun x y H Q => ∃ k kvs vd, RP K wd H x (.dict kvs) ∧ RP K wd H y k ∧ dictOk kvs k = true ∧ dGet kvs k = some vd ∧ ∀ v, RD K wd H v vd → Q v H
theorem ix_imp {r r' : R2} (h : IxR X r) (i : ∀ x y H Q, r' x y H Q → r x y H Q) : IxR X r' :=
  fun va sl pins s σ H x y v u Q I rx ry q => h va sl pins s σ H x y v u Q I rx ry (i x y H Q q)
theorem ix_key (hu : X.A.units + 64 < cLine) : IxR X (rIdxK X.K X.w) := by
  intro value slice pins s σ H x y v u Q I rx ry h hs
  obtain ⟨k, kvs, vd, rd, rk, ok, eg, q⟩ := h
  obtain ⟨⟨kk, k1, k2⟩, k3, k4⟩ := dictOk_parts ok
  have rk := rk.rd_tup k3
  obtain ⟨b, rfl⟩ := tup_ref k3 rk
  obtain ⟨a, es, ep, rfl, h1, d⟩ := rd
  cases rx
  cases ry
  obtain ⟨xs, hx, xr, _⟩ := dict_at I h1 d
  rcases xr.get k1 with ⟨e1, e2⟩ | ⟨b', u', vv, vd', e1, e2, r1, r2⟩
  · rw [eg] at e2; cases e2
  · rw [eg] at e2; cases e2
    exact tail_any hx.typeIs slot_dict_getitem.lookup (wpAny_getItem_heap (knd := NK X.prog X.w) (by show X.A.units + 1 + 8 < cLine; omega) ⟨RD.nested I _ _ _ _ rk rfl k1, k2⟩ hx e1 ⟨vv, H, I.tok _, r1, q vv r2⟩) hs
theorem ev_idx (hu : X.A.units + 64 < cLine) : IxR X (rIdx X.K X.w) := by
  refine ix_imp (ix_list.or (ix_tup.or (ix_str.or (ix_key hu)))) fun x y H Q h => ?_
  obtain ⟨a, b, w, ra, rb, e, q⟩ := h
  have e0 := Option.map_eq_some_iff.mp e
  clear e
  obtain ⟨z, e, rfl⟩ := e0
  have q : ∀ v, RD X.K X.w H v z → Q v H := fun v r => q v H (.same r)
  cases a with
  | list xs =>
    cases b <;> simp only [idxD] at e <;> try (cases e; done)
    obtain ⟨l, vs, rfl, h1, r1⟩ := ra
    cases rb.int
    obtain ⟨v, e1, r2⟩ := r1.at_ e
    exact .inl ⟨l, vs, _, v, rfl, rfl, h1.sq, e1, q v r2⟩
  | tuple xs =>
    cases b <;> simp only [idxD] at e <;> try (cases e; done)
    obtain ⟨l, vs, rfl, h1, r1⟩ := ra.tuple
    cases rb.int
    obtain ⟨v, e1, r2⟩ := r1.at_ e
    exact .inr (.inl ⟨l, vs, _, v, rfl, rfl, h1, e1, q v r2⟩)
  | str x =>
    cases b <;> simp only [idxD] at e <;> try (cases e; done)
    cases ra.str; cases rb.int
    split at e
    · rename_i hz
      obtain ⟨c, e1, e2⟩ := Option.map_eq_some_iff.mp e
      subst e2
      exact .inr (.inr (.inl ⟨x, _, c, rfl, rfl, hz, e1, q _ (.str _)⟩))
    · cases e
  | dict kvs =>
    have e : (if dictOk kvs b then dGet kvs b else none) = some z := by cases b <;> exact e
    split at e
    · rename_i ok
      exact .inr (.inr (.inr ⟨b, kvs, z, ra, rb, ok, e, q⟩))
    · cases e
  | none => cases b <;> cases e
  | bool _ => cases b <;> cases e
  | int _ => cases b <;> cases e

/-! ### slices -/
def rSlc (K : PySem.W.Frag) (wd : World) : V → Option Int → Option Int → Hp → VK → Prop := fun x lo hi H Q => ∃ a w, RP K wd H x a ∧ slcW a lo hi = some w ∧ ∀ v H', NewR K wd H H' v w → Q v H'
theorem cut_all {xs : List D} {lo hi : Option Int} (h : HT.sIx xs.length 0 lo = 0 ∧ HT.sIx xs.length xs.length hi = xs.length) : cutD xs lo hi = xs := by
  unfold cutD
  rw [h.1, h.2]
  simp
theorem ev_slc : SlR X (rSlc X.K X.w) := by
  intro pins s σ H x v vl vu lo hi sl Q I rx hs pl pu h
  obtain ⟨a, w, ra, e, q⟩ := h
  cases a <;> simp only [slcW] at e <;> try (cases e; done)
  · cases ra.str
    split at e
    · rename_i hz; cases e
      exact sl_str pins s σ H _ v vl vu lo hi sl Q I rx hs pl pu ⟨_, rfl, hz, q _ _ (.same (.str _))⟩
    · cases e
  · cases e
    obtain ⟨l, vs, rfl, h1, r1⟩ := ra
    exact sl_list pins s σ H _ v vl vu lo hi sl Q I rx hs pl pu ⟨l, vs, rfl, h1.sq, fun p hp => q _ _ (.lst hp (r1.cut lo hi))⟩
  · cases e
    obtain ⟨l, vs, rfl, h1, r1⟩ := ra.tuple
    refine sl_tupA pins s σ H _ v vl vu lo hi sl Q I rx hs pl pu ⟨l, vs, rfl, h1, fun hw => ?_, fun _ p hp => q _ _ (.tup hp (r1.cut lo hi))⟩
    rw [r1.length] at hw
    rw [cut_all hw] at q
    exact q _ _ (.same (.tup h1 r1))

/-! ### minus, truth -/
theorem ev_neg : UnR X (unaryOp .USub) (rUn X.K X.w fun x => match x with
    | .int i => some (.d (.int (-i)))
    | _ => none) := by
  intro pins s σ H x v Q I rx h
  obtain ⟨a, w, ra, e, q⟩ := h
  cases a <;> try (cases e; done)
  cases ra.int
  cases e
  exact un_neg pins s σ H _ v Q I rx ⟨_, rfl, q _ _ (.same (.int _))⟩
def rTru (K : PySem.W.Frag) (wd : World) : V → Hp → (Bool → Hp → Prop) → Prop := fun x H Q => ∃ d t, RP K wd H x d ∧ truO d = some t ∧ Q t H
theorem tru_V {K : PySem.W.Frag} {wd : World} {H : Hp} {x : V} {d : D} {t : Bool} (r : RP K wd H x d) (e : truO d = some t) : TruV K x H t := by
  cases d with
  | none => cases r.none; cases e; rfl
  | bool b => cases r.bool; cases e; rfl
  | int i => cases r.int; cases e; rfl
  | str y =>
    cases r.str
    simp only [truO] at e
    split at e
    · rename_i hz
      cases e
      refine ⟨hz, ?_⟩
      by_cases h0 : y.length = 0
      · rw [h0]; rfl
      · have h1 : ((y.length : Int) != 0) = true := by simp [h0]
        rw [h1]; simp [h0]
    · cases e
  | list xs =>
    cases e
    obtain ⟨a, vs, rfl, h1, r1⟩ := r
    refine .inl ⟨vs, h1.sq, ?_⟩
    show (!xs.isEmpty) = !vs.isEmpty
    cases r1 <;> rfl
  | tuple xs =>
    cases e
    obtain ⟨a, vs, rfl, h1, r1⟩ := r.tuple
    refine .inr (.inl ⟨vs, h1, ?_⟩)
    show (!xs.isEmpty) = !vs.isEmpty
    cases r1 <;> rfl
  | dict kvs => cases e
theorem ev_tru : TruR X (rTru X.K X.w) := by
  intro pins s σ H x v Q I rx h
  obtain ⟨d, t, rd, e, q⟩ := h
  exact tru_ok pins s σ H x v Q I rx ⟨t, tru_V rd e, q⟩

/-! ### builtins -/
theorem maxI_mem : ∀ (ns : List Int) (n : Int), maxI n ns ∈ n :: ns ∧ ∀ y ∈ n :: ns, y ≤ maxI n ns
  | [], n => ⟨by simp [maxI], fun y h => by simp at h; simp [maxI, h]⟩
  | m :: ns, n => by
    have e : maxI n (m :: ns) = maxI (if n < m then m else n) ns := rfl
    obtain ⟨h1, h2⟩ := maxI_mem ns (if n < m then m else n)
    rw [e]
    refine ⟨?_, fun y hy => ?_⟩
    · rcases List.mem_cons.mp h1 with h | h
      · rw [h]; split <;> simp
      · exact .tail _ (.tail _ h)
    · have h3 := h2 _ (.head _)
      generalize maxI (if n < m then m else n) ns = z at h1 h2 h3 ⊢
      rcases List.mem_cons.mp hy with h | h
      · subst h; split at h3 <;> omega
      · rcases List.mem_cons.mp h with h | h
        · subst h; split at h3 <;> omega
        · exact h2 y (.tail _ h)
theorem minI_mem : ∀ (ns : List Int) (n : Int), minI n ns ∈ n :: ns ∧ ∀ y ∈ n :: ns, minI n ns ≤ y
  | [], n => ⟨by simp [minI], fun y h => by simp at h; simp [minI, h]⟩
  | m :: ns, n => by
    have e : minI n (m :: ns) = minI (if m < n then m else n) ns := rfl
    obtain ⟨h1, h2⟩ := minI_mem ns (if m < n then m else n)
    rw [e]
    refine ⟨?_, fun y hy => ?_⟩
    · rcases List.mem_cons.mp h1 with h | h
      · rw [h]; split <;> simp
      · exact .tail _ (.tail _ h)
    · have h3 := h2 _ (.head _)
      generalize minI (if m < n then m else n) ns = z at h1 h2 h3 ⊢
      rcases List.mem_cons.mp hy with h | h
      · subst h; split at h3 <;> omega
      · rcases List.mem_cons.mp h with h | h
        · subst h; split at h3 <;> omega
        · exact h2 y (.tail _ h)
theorem max_is {n m : Int} {ns : List Int} (h1 : m ∈ n :: ns) (h2 : ∀ y, y ∈ n :: ns → y ≤ m) : m = maxI n ns := by
  obtain ⟨g1, g2⟩ := maxI_mem ns n
  have := g2 m h1
  have := h2 _ g1
  omega
theorem min_is {n m : Int} {ns : List Int} (h1 : m ∈ n :: ns) (h2 : ∀ y, y ∈ n :: ns → m ≤ y) : m = minI n ns := by
  obtain ⟨g1, g2⟩ := minI_mem ns n
  have := g2 m h1
  have := h2 _ g1
  omega
theorem intsD_map : ∀ {ds : List D} {ns : List Int}, intsD ds = some ns → ds = ns.map PyData.int
  | [], ns, e => by cases e; rfl
  | d :: ds, ns, e => by
    cases d with
    | int i =>
      rw [intsD] at e
      obtain ⟨ms, e1, rfl⟩ := Option.map_eq_some_iff.mp e
      rw [intsD_map e1]; rfl
    | _ => cases e
theorem ints_alike (ns : List Int) : AlikeAll (ns.map PyData.int) := by
  refine ⟨fun x hx y hy => ?_, fun x hx => ?_⟩
  · obtain ⟨i, _, rfl⟩ := List.mem_map.mp hx
    obtain ⟨j, _, rfl⟩ := List.mem_map.mp hy
    rfl
  · obtain ⟨i, _, rfl⟩ := List.mem_map.mp hx
    intro z; cases z
theorem fold_max : ∀ (ns : List Int) (n : Int), ns.foldl max n = maxI n ns
  | [], _ => rfl
  | m :: ns, n => by
    have e : max n m = if n < m then m else n := by
      show (if n ≤ m then m else n) = _
      split <;> split <;> omega
    rw [List.foldl_cons, fold_max ns, e]; rfl
theorem fold_min : ∀ (ns : List Int) (n : Int), ns.foldl min n = minI n ns
  | [], _ => rfl
  | m :: ns, n => by
    have e : min n m = if m < n then m else n := by
      show (if n ≤ m then n else m) = _
      split <;> split <;> omega
    rw [List.foldl_cons, fold_min ns, e]; rfl
theorem reads_ints {h : Heap} : ∀ {ns : List Int} {us : List Value}, Vals (ns.map V.int) us → ReadsAll h us (ns.map PyData.int) []
  | [], _, r => by cases r; exact .nil
  | n :: ns, _, r => by
    cases r with
    | cons r1 r2 =>
      obtain ⟨t, rfl⟩ := r1
      exact .cons (as := []) (bs := []) (.int n t) (reads_ints r2)
theorem call_max_tup (hu : X.A.units + 64 < cLine) (hc : X.calm = true) : CallR X (.builtin "max") (fun vs H Q => ∃ (a : Addr) (n : Int) (ns : List Int), vs = [V.ref a] ∧ SqT X.K H a ((n :: ns).map V.int) ∧ Q (.int (maxI n ns)) H) := by
  intro pins s σ H vs us Q I r h
  obtain ⟨a, n, ns, rfl, hs, q⟩ := h
  obtain ⟨its, rv, hl, hz⟩ := I.tuple hs
  rw [Vals.ref1 r]
  refine max_tuple_data (I.ok.hd hc) hl (reads_ints rv) (ints_alike (n :: ns)) (by rw [← List.map_cons, depth_ints]; omega) fun i v h' tk bs hv hr hk => ?_
  rw [maxD_ints, fold_max] at hr
  cases hr
  exact ⟨.int _, H, I.kept hk, ⟨_, rfl⟩, q⟩
theorem call_min_tup (hu : X.A.units + 64 < cLine) (hc : X.calm = true) : CallR X (.builtin "min") (fun vs H Q => ∃ (a : Addr) (n : Int) (ns : List Int), vs = [V.ref a] ∧ SqT X.K H a ((n :: ns).map V.int) ∧ Q (.int (minI n ns)) H) := by
  intro pins s σ H vs us Q I r h
  obtain ⟨a, n, ns, rfl, hs, q⟩ := h
  obtain ⟨its, rv, hl, hz⟩ := I.tuple hs
  rw [Vals.ref1 r]
  refine min_tuple_data (I.ok.hd hc) hl (reads_ints rv) (ints_alike (n :: ns)) (by rw [← List.map_cons, depth_ints]; omega) fun i v h' tk bs hv hr hk => ?_
  rw [minD_ints, fold_min] at hr
  cases hr
  exact ⟨.int _, H, I.kept hk, ⟨_, rfl⟩, q⟩
theorem bi_max (hu : X.A.units + 64 < cLine) (hc : X.calm = true) : CallR X (.builtin "max") (rFn X.K X.w (biW .max)) := by
  refine call_imp (CallR.or (cr_max hc) (CallR.or (call_max_tup hu hc) (call_max2 hc))) fun vs H Q h => ?_
  obtain ⟨xs, w, r, e, q⟩ := h
  match xs, r, e with
  | [.list xs], r, e =>
    obtain ⟨v, rfl, a, us, rfl, h1, r1⟩ := r.one
    simp only [biW] at e
    cases e1 : intsD xs with
    | none => rw [e1] at e; cases e
    | some ns =>
      cases ns with
      | nil => rw [e1] at e; cases e
      | cons n ns =>
        rw [e1] at e; cases e
        have e2 := r1.ints e1
        subst e2
        exact .inl ⟨a, n :: ns, rfl, h1.sq, by simp, fun m m1 m2 => by rw [max_is m1 m2]; exact q _ _ (.same (.int _))⟩
  | [.tuple xs], r, e =>
    obtain ⟨v, rfl, r0⟩ := r.one
    obtain ⟨a, us, rfl, h1, r1⟩ := r0.tuple
    simp only [biW] at e
    cases e1 : intsD xs with
    | none => rw [e1] at e; cases e
    | some ns =>
      cases ns with
      | nil => rw [e1] at e; cases e
      | cons n ns =>
        rw [e1] at e; cases e
        have e2 := r1.ints e1
        subst e2
        exact .inr (.inl ⟨a, n, ns, rfl, h1, q _ _ (.same (.int _))⟩)
  | [.int i, .int j], r, e =>
    obtain ⟨v, u, rfl, r1, r2⟩ := r.two
    cases r1.int; cases r2.int; cases e
    exact .inr (.inr ⟨i, j, rfl, q _ _ (.same (.int _))⟩)
theorem bi_min (hu : X.A.units + 64 < cLine) (hc : X.calm = true) : CallR X (.builtin "min") (rFn X.K X.w (biW .min)) := by
  refine call_imp (CallR.or (cr_min hc) (CallR.or (call_min_tup hu hc) (call_min2 hc))) fun vs H Q h => ?_
  obtain ⟨xs, w, r, e, q⟩ := h
  match xs, r, e with
  | [.list xs], r, e =>
    obtain ⟨v, rfl, a, us, rfl, h1, r1⟩ := r.one
    simp only [biW] at e
    cases e1 : intsD xs with
    | none => rw [e1] at e; cases e
    | some ns =>
      cases ns with
      | nil => rw [e1] at e; cases e
      | cons n ns =>
        rw [e1] at e; cases e
        have e2 := r1.ints e1
        subst e2
        exact .inl ⟨a, n :: ns, rfl, h1.sq, by simp, fun m m1 m2 => by rw [min_is m1 m2]; exact q _ _ (.same (.int _))⟩
  | [.tuple xs], r, e =>
    obtain ⟨v, rfl, r0⟩ := r.one
    obtain ⟨a, us, rfl, h1, r1⟩ := r0.tuple
    simp only [biW] at e
    cases e1 : intsD xs with
    | none => rw [e1] at e; cases e
    | some ns =>
      cases ns with
      | nil => rw [e1] at e; cases e
      | cons n ns =>
        rw [e1] at e; cases e
        have e2 := r1.ints e1
        subst e2
        exact .inr (.inl ⟨a, n, ns, rfl, h1, q _ _ (.same (.int _))⟩)
  | [.int i, .int j], r, e =>
    obtain ⟨v, u, rfl, r1, r2⟩ := r.two
    cases r1.int; cases r2.int; cases e
    exact .inr (.inr ⟨i, j, rfl, q _ _ (.same (.int _))⟩)
theorem bi_abs : CallR X (.builtin "abs") (rFn X.K X.w (biW .abs)) := by
  refine call_imp call_abs fun vs H Q h => ?_
  obtain ⟨xs, w, r, e, q⟩ := h
  match xs, r, e with
  | [.int i], r, e =>
    obtain ⟨v, rfl, r1⟩ := r.one
    cases r1.int; cases e
    exact ⟨i, rfl, q _ _ (.same (.int _))⟩
theorem bi_sum (hc : X.calm = true) : CallR X (.builtin "sum") (rFn X.K X.w (biW .sum)) := by
  refine call_imp (cr_sum hc) fun vs H Q h => ?_
  obtain ⟨xs, w, r, e, q⟩ := h
  match xs, r, e with
  | [.list xs], r, e =>
    obtain ⟨v, rfl, a, us, rfl, h1, r1⟩ := r.one
    simp only [biW] at e
    obtain ⟨ns, e1, rfl⟩ := Option.map_eq_some_iff.mp e
    have e2 := r1.ints e1
    subst e2
    exact ⟨a, ns, rfl, h1.sq, q _ _ (.same (.int _))⟩
theorem bi_all (hc : X.calm = true) : CallR X (.builtin "all") (rFn X.K X.w (biW .all)) := by
  refine call_imp (cr_all hc) fun vs H Q h => ?_
  obtain ⟨xs, w, r, e, q⟩ := h
  match xs, r, e with
  | [.list xs], r, e =>
    obtain ⟨v, rfl, a, us, rfl, h1, r1⟩ := r.one
    simp only [biW] at e
    obtain ⟨ns, e1, rfl⟩ := Option.map_eq_some_iff.mp e
    have e2 := r1.bools e1
    subst e2
    exact ⟨a, ns, rfl, h1.sq, q _ _ (.same (.bl _))⟩
theorem bi_any (hc : X.calm = true) : CallR X (.builtin "any") (rFn X.K X.w (biW .any)) := by
  refine call_imp (cr_any hc) fun vs H Q h => ?_
  obtain ⟨xs, w, r, e, q⟩ := h
  match xs, r, e with
  | [.list xs], r, e =>
    obtain ⟨v, rfl, a, us, rfl, h1, r1⟩ := r.one
    simp only [biW] at e
    obtain ⟨ns, e1, rfl⟩ := Option.map_eq_some_iff.mp e
    have e2 := r1.bools e1
    subst e2
    exact ⟨a, ns, rfl, h1.sq, q _ _ (.same (.bl _))⟩
theorem bi_int : CallR X (.type "int") (rFn X.K X.w (biW .int)) := by
  refine call_imp (CallR.or call_int1 call_int_str) fun vs H Q h => ?_
  obtain ⟨xs, w, r, e, q⟩ := h
  match xs, r, e with
  | [.int i], r, e =>
    obtain ⟨v, rfl, r1⟩ := r.one
    cases r1.int; cases e
    exact .inl (.inl ⟨i, rfl, q _ _ (.same (.int _))⟩)
  | [.bool b], r, e =>
    obtain ⟨v, rfl, r1⟩ := r.one
    cases r1.bool; cases e
    exact .inl (.inr ⟨b, rfl, q _ _ (.same (.int _))⟩)
  | [.str x], r, e =>
    obtain ⟨v, rfl, r1⟩ := r.one
    cases r1.str
    simp only [biW] at e
    cases e1 : PySem.intText? x with
    | none => rw [e1] at e; cases e
    | some n =>
      rw [e1] at e
      simp only at e
      split at e
      · rename_i hz
        cases e
        exact .inr ⟨x, n, rfl, e1, hz, q _ _ (.same (.int _))⟩
      · cases e
theorem bi_tuple : CallR X (.type "tuple") (rFn X.K X.w (biW .tuple)) := by
  refine call_imp call_tuple_of fun vs H Q h => ?_
  obtain ⟨xs, w, r, e, q⟩ := h
  match xs, r, e with
  | [.list xs], r, e =>
    obtain ⟨v, rfl, a, us, rfl, h1, r1⟩ := r.one
    cases e
    exact ⟨a, us, rfl, .inl ⟨h1.sq, fun l hl => q _ _ (.tup hl r1)⟩⟩
  | [.tuple xs], r, e =>
    obtain ⟨v, rfl, r0⟩ := r.one
    obtain ⟨a, us, rfl, h1, r1⟩ := r0.tuple
    cases e
    exact ⟨a, us, rfl, .inr ⟨h1, q _ _ (.same (.tup h1 r1))⟩⟩
end
end FF
end
section
set_option Elab.async false
set_option linter.all false
set_option maxRecDepth 100000
set_option maxHeartbeats 1000000
/-! FM: more builtins, methods. -/
namespace FF
open PySem PySem.Spec PyProof.Rows L2 PySem.W
section
variable {X : Cx}
theorem bi_len : CallR X (.builtin "len") (rFn X.K X.w (biW .len)) := by
  refine call_imp (CallR.or call_len_seq call_len_str) fun vs H Q h => ?_
  obtain ⟨xs, w, r, e, q⟩ := h
  match xs, r, e with
  | [.list xs], r, e =>
    obtain ⟨v, rfl, a, us, rfl, h1, r1⟩ := r.one
    cases e
    exact .inl ⟨a, us, rfl, .inl h1.sq, by rw [r1.length]; exact q _ _ (.same (.int _))⟩
  | [.tuple xs], r, e =>
    obtain ⟨v, rfl, r0⟩ := r.one
    obtain ⟨a, us, rfl, h1, r1⟩ := r0.tuple
    cases e
    exact .inl ⟨a, us, rfl, .inr h1, by rw [r1.length]; exact q _ _ (.same (.int _))⟩
  | [.str x], r, e =>
    obtain ⟨v, rfl, r0⟩ := r.one
    cases r0.str
    simp only [biW] at e
    split at e
    · rename_i hz
      cases e
      exact .inr ⟨x, rfl, hz, q _ _ (.same (.int _))⟩
    · cases e
theorem bi_str : CallR X (.type "str") (rFn X.K X.w (biW .str)) := by
  refine call_imp call_str_int fun vs H Q h => ?_
  obtain ⟨xs, w, r, e, q⟩ := h
  match xs, r, e with
  | [.int i], r, e =>
    obtain ⟨v, rfl, r1⟩ := r.one
    cases r1.int
    simp only [biW] at e
    split at e
    · rename_i hz
      cases e
      exact ⟨i, rfl, hz, q _ _ (.same (.str _))⟩
    · cases e
theorem bi_list : CallR X (.type "list") (rFn X.K X.w (biW .list)) := by
  refine call_imp call_list_of fun vs H Q h => ?_
  obtain ⟨xs, w, r, e, q⟩ := h
  match xs, r, e with
  | [.list xs], r, e =>
    obtain ⟨v, rfl, a, us, rfl, h1, r1⟩ := r.one
    cases e
    exact ⟨a, us, rfl, .inl h1.sq, fun l hl => q _ _ (.lst hl r1)⟩
  | [.tuple xs], r, e =>
    obtain ⟨v, rfl, r0⟩ := r.one
    obtain ⟨a, us, rfl, h1, r1⟩ := r0.tuple
    cases e
    exact ⟨a, us, rfl, .inr h1, fun l hl => q _ _ (.lst hl r1)⟩

/-! ### sorted -/
theorem each_of {pins : List (Addr × Obj)} {σ : L2.St} {H : Hp} {s : Shared} (I : Inv X pins σ H s) : ∀ (ds : List D) (vs : List V) (us : List Value), (ds.all fun x => decide (x.depth ≤ 60) && x.plain) = true → RDs X.K X.w H vs ds → Vals vs us →
    EachIs (fun u d => ∃ v, RelV v u ∧ RD X.K X.w H v d) us ds ∧ EachIs (fun u d => ∃ as, Reads s.heap u d as) us ds
  | [], _, us, hp, r, ru => by cases r; cases ru; exact ⟨.nil, .nil⟩
  | d :: ds, _, us, hp, r, ru => by
    rw [List.all_cons, Bool.and_eq_true, Bool.and_eq_true] at hp
    cases r with
    | cons r1 r2 =>
      cases ru with
      | cons u1 u2 =>
        obtain ⟨h1, h2⟩ := each_of I ds _ _ hp.2 r2 u2
        exact ⟨.cons ⟨_, u1, r1⟩ h1, .cons (Dp.reads I d _ _ (RD.dp d _ hp.1.2 r1) u1) h2⟩
theorem of_each {K : PySem.W.Frag} {w : World} {H : Hp} : ∀ {us : List Value} {ds : List D}, EachIs (fun u d => ∃ v, RelV v u ∧ RD K w H v d) us ds → ∃ vs, Vals vs us ∧ RDs K w H vs ds
  | _, _, .nil => ⟨[], .nil, .nil⟩
  | _, _, .cons h t => by
    obtain ⟨v, h1, h2⟩ := h
    obtain ⟨vs, h3, h4⟩ := of_each t
    exact ⟨v :: vs, .cons h1 h3, .cons h2 h4⟩
theorem bi_sorted (hu : X.A.units + 64 < cLine) : CallR X (.builtin "sorted") (rFn X.K X.w (biW .sorted)) := by
  intro pins s σ H vs us Q I r h
  obtain ⟨xs, w, rr, e, q⟩ := h
  match xs, rr, e with
  | [.list xs], rr, e =>
    obtain ⟨v, rfl, a, ws, rfl, h1, r1⟩ := rr.one
    simp only [biW] at e
    split at e
    · rename_i ok
      cases e
      unfold sortOk at ok
      simp only [Bool.and_eq_true, Bool.or_eq_true] at ok
      obtain ⟨⟨⟨o1, o2⟩, o3⟩, o4⟩ := ok
      have o2 := of_decide_eq_true o2
      obtain ⟨its, rv, hl, hz⟩ := I.list (h1.sq)
      rw [Vals.ref1 r]
      obtain ⟨e1, e2⟩ := each_of I xs ws its o3 r1 rv
      have hid : xs.map id = xs := List.map_id xs
      refine sorted_data (enc := id) hl.isList e1 e2 (fun d hd d' hd' => ?_) ?_ o2 (fun b hb => ?_) fun out ho eo => ?_
      · rw [hid] at hd hd'
        exact List.all_eq_true.mp (List.all_eq_true.mp o1 d hd) d' hd'
      · rw [hid]
        rcases o4 with o4 | o4
        · refine .inl fun d hd => ?_
          have := List.all_eq_true.mp o4 d hd
          match d, this with
          | .tuple (x :: r), _ => exact ⟨x, r, rfl⟩
        · refine .inr fun d hd => ?_
          have := List.all_eq_true.mp o4 d hd
          exact ⟨fun z => (by subst z; cases this), fun ys z => (by subst z; cases this)⟩
      · have := List.all_eq_true.mp o3 b hb
        rw [Bool.and_eq_true] at this
        have := of_decide_eq_true this.1
        show X.A.units + 2 + b.depth < cLine
        omega
      · rw [dataLe_eq] at eo
        obtain ⟨os, v1, v2⟩ := of_each eo
        have hlen : os.length ≤ sizeLine := by rw [v1.length, ho]; exact o2
        obtain ⟨ep, he'⟩ := PyProof.Rows.sortedAll_at s.heap its out.toArray
        exact ⟨.ref _, _, I.laid (o := .lst os) (t' := s.toks) (fun _ _ => PyProof.Rows.sortedAll_old) (Nat.le_succ _) ⟨hlen, out, ep, v1, he'⟩, rfl, q _ _ (.lst (I.hok.fresh (Nat.le_succ _)) v2)⟩
    · cases e
end
end FF
end
section
set_option Elab.async false
set_option linter.all false
set_option maxRecDepth 100000
set_option maxHeartbeats 1000000
/-! FN: how readings are put together. -/
namespace FF
open PySem PySem.Spec PyProof.Rows L2 PySem.W
section
variable {K : PySem.W.Frag} {wd : World} {fa : Nat → Addr} {σ : L2.St} {ρ ρ1 ρ2 : Sl} {H H1 H2 H' : Hp} {Ex : Nat → Hp → Prop}
theorem ARs.rps (s : SR K wd fa σ ρ H) : ∀ {vs : List V} {as : List A} {xs : List D}, ARs (K := K) (wd := wd) (fa := fa) σ H vs as → ats ρ as = some xs → RPs K wd H vs xs
  | [], [], xs, _, e => by cases e; exact trivial
  | v :: vs, a :: as, xs, h, e => by
    rw [ats] at e
    cases e1 : a.at ρ with
    | none => rw [e1] at e; cases e
    | some x =>
      cases e2 : ats ρ as with
      | none => rw [e1, e2] at e; cases e
      | some ys =>
        rw [e1, e2] at e
        cases e
        exact ⟨h.1.rp s e1, ARs.rps s h.2 e2⟩
  | [], _ :: _, _, h, _ => h.elim
  | _ :: _, [], _, h, _ => h.elim
/-- the end of an operation by values -/
theorem Rdg.end_ {w : Option W} {k : W → Sl → Hp → Prop} (h : Rdg (K := K) (wd := wd) (fa := fa) Ex (okW w ρ) σ ρ H k) : ∃ x, w = some x ∧ ∀ H', Stp K wd fa σ ρ H σ ρ H' → k x ρ H' := by
  cases w with
  | none => exact h.elim
  | some x => exact ⟨x, rfl, h⟩
theorem Rdg.getd {β : Type} {a : A} {f : D → O W} {k : W → Sl → Hp → Prop} (h : Rdg (K := K) (wd := wd) (fa := fa) Ex (a.get ρ f) σ ρ1 H k) : ∃ x, a.at ρ = some x ∧ Rdg (K := K) (wd := wd) (fa := fa) Ex (f x) σ ρ1 H k := by
  unfold A.get at h
  cases e : a.at ρ with
  | none => rw [e] at h; exact h.elim
  | some x => rw [e] at h; exact ⟨x, rfl, h⟩
end
section
variable {X : Cx} {fa : Nat → Addr} {Ex : Nat → Hp → Prop} {fA fB : Sl → O A} {e : Expr}
theorem rd_op {g : D → D → Option W} (h : PE X e (tOp (rOp X.K X.w g) (rdA X.K X.w fa Ex fA) (rdA X.K X.w fa Ex fB))) :
    PE X e (rdW X.K X.w fa Ex fun ρ => (fA ρ).bind fun a ρ => (fB ρ).bind fun b ρ => a.get ρ fun x => b.get ρ fun y => okW (g x y) ρ) := by
  refine PE.weak h fun σ H Q ⟨ρ, sr, q⟩ => ?_
  refine ⟨ρ, sr, q.bind.imp fun a ρ1 H1 s1 q1 v rv => ?_⟩
  refine ⟨ρ1, s1.sr, q1.bind.imp fun b ρ2 H2 s2 q2 u ru => ?_⟩
  obtain ⟨x, ex, q3⟩ := Rdg.getd (β := Unit) q2
  obtain ⟨y, ey, q4⟩ := Rdg.getd (β := Unit) q3
  obtain ⟨w, ew, q5⟩ := q4.end_
  exact ⟨x, y, w, (rv.mono s2.mo).rp s2.sr ex, ru.rp s2.sr ey, ew, fun z H' n => q5 H' (n.stp s2.sr) z (n.wr' (s1.trans s2))⟩
theorem rd_un {g : D → Option W} (h : PE X e (tUn (rUn X.K X.w g) (rdA X.K X.w fa Ex fA))) :
    PE X e (rdW X.K X.w fa Ex fun ρ => (fA ρ).bind fun a ρ => a.get ρ fun x => okW (g x) ρ) := by
  refine PE.weak h fun σ H Q ⟨ρ, sr, q⟩ => ?_
  refine ⟨ρ, sr, q.bind.imp fun a ρ1 H1 s1 q1 v rv => ?_⟩
  obtain ⟨x, ex, q3⟩ := Rdg.getd (β := Unit) q1
  obtain ⟨w, ew, q5⟩ := q3.end_
  exact ⟨x, w, rv.rp s1.sr ex, ew, fun z H' n => q5 H' (n.stp s1.sr) z (n.wr' s1)⟩
theorem rd_fn {g : List D → Option W} {fs : Sl → O (List A)} (h : PE X e (tCB (rFn X.K X.w g) (rdAs X.K X.w fa Ex fs))) :
    PE X e (rdW X.K X.w fa Ex fun ρ => (fs ρ).bind fun as ρ => match ats ρ as with
    | some xs => okW (g xs) ρ
    | none => .bad) := by
  refine PE.weak h fun σ H Q ⟨ρ, sr, q⟩ => ?_
  refine ⟨ρ, sr, q.bind.imp fun as ρ1 H1 s1 q1 vs rv => ?_⟩
  cases e1 : ats ρ1 as with
  | none => rw [e1] at q1; exact q1.elim
  | some xs =>
    rw [e1] at q1
    obtain ⟨w, ew, q5⟩ := Rdg.end_ q1
    exact ⟨xs, w, rv.rps s1.sr e1, ew, fun z H' n => q5 H' (n.stp s1.sr) z (n.wr' s1)⟩
/-- arguments -/
theorem pa_nil_ : PA X [] (rdAs X.K X.w fa Ex fun ρ => .ok [] ρ) :=
  PA.weak pa_nil fun σ H Q ⟨ρ, sr, q⟩ => q H (Stp.refl _ _ _ sr) [] trivial
theorem pa_cons_ {es : List Expr} {fs : Sl → O (List A)} (h1 : PE X e (rdA X.K X.w fa Ex fA)) (h2 : PA X es (rdAs X.K X.w fa Ex fs)) (hs : starEach (e :: es) X.env = (false, eval e X.env) :: starEach es X.env) :
    PA X (e :: es) (rdAs X.K X.w fa Ex fun ρ => (fA ρ).bind fun a ρ => (fs ρ).bind fun as ρ => .ok (a :: as) ρ) := by
  refine PA.weak (pa_cons h1 h2 hs) fun σ H Q ⟨ρ, sr, q⟩ => ?_
  refine ⟨ρ, sr, q.bind.imp fun a ρ1 H1 s1 q1 v rv => ?_⟩
  refine ⟨ρ1, s1.sr, q1.bind.imp fun as ρ2 H2 s2 q2 vs rvs => ?_⟩
  exact q2 H2 (Stp.refl _ _ _ s2.sr) (v :: vs) ⟨rv.mono s2.mo, rvs⟩
theorem pd_nil_ : PA X [] (rdDs X.K X.w fa Ex fun ρ => .ok [] ρ) :=
  PA.weak pa_nil fun σ H Q ⟨ρ, sr, q⟩ => q H (Stp.refl _ _ _ sr) [] .nil
theorem pd_cons_ {es : List Expr} {f : Sl → O D} {fs : Sl → O (List D)} (h1 : PE X e (rdD X.K X.w fa Ex f)) (h2 : PA X es (rdDs X.K X.w fa Ex fs)) (hs : starEach (e :: es) X.env = (false, eval e X.env) :: starEach es X.env) :
    PA X (e :: es) (rdDs X.K X.w fa Ex fun ρ => (f ρ).bind fun x ρ => (fs ρ).bind fun xs ρ => .ok (x :: xs) ρ) := by
  refine PA.weak (pa_cons h1 h2 hs) fun σ H Q ⟨ρ, sr, q⟩ => ?_
  refine ⟨ρ, sr, q.bind.imp fun a ρ1 H1 s1 q1 v rv => ?_⟩
  refine ⟨ρ1, s1.sr, q1.bind.imp fun as ρ2 H2 s2 q2 vs rvs => ?_⟩
  exact q2 H2 (Stp.refl _ _ _ s2.sr) (v :: vs) (.cons (RD.mono s2.mo _ _ rv) rvs)
theorem pe_tup_ {es : List Expr} {x1 : Nat} {pos : Pos} {fs : Sl → O (List D)} (h : PA X es (rdDs X.K X.w fa Ex fs)) :
    PE X (.Tuple es x1 pos) (rdW X.K X.w fa Ex fun ρ => (fs ρ).bind fun xs ρ => if xs.length ≤ sizeLine then .ok (.d (.tuple xs)) ρ else .bad) := by
  refine PE.weak (pe_tup h) fun σ H Q ⟨ρ, sr, q⟩ => ?_
  refine ⟨ρ, sr, q.bind.imp fun xs ρ1 H1 s1 q1 vs rv => ?_⟩
  by_cases hz : xs.length ≤ sizeLine
  · rw [if_pos hz] at q1
    refine ⟨by rw [rv.length]; exact hz, fun p hp => ?_⟩
    have n : NewR X.K X.w H1 _ (.ref p) (.d (.tuple xs)) := .tup hp rv
    exact q1 _ (n.stp s1.sr) _ (n.wr' s1)
  · rw [if_neg hz] at q1; exact q1.elim
theorem pe_lst_ {es : List Expr} {pos : Pos} {fs : Sl → O (List D)} (h : PA X es (rdDs X.K X.w fa Ex fs)) :
    PE X (.List es pos) (rdW X.K X.w fa Ex fun ρ => (fs ρ).bind fun xs ρ => if xs.length ≤ sizeLine then .ok (.ol xs) ρ else .bad) := by
  refine PE.weak (pe_lst h) fun σ H Q ⟨ρ, sr, q⟩ => ?_
  refine ⟨ρ, sr, q.bind.imp fun xs ρ1 H1 s1 q1 vs rv => ?_⟩
  by_cases hz : xs.length ≤ sizeLine
  · rw [if_pos hz] at q1
    refine ⟨by rw [rv.length]; exact hz, fun p hp => ?_⟩
    have n : NewR X.K X.w H1 _ (.ref p) (.ol xs) := .lst hp rv
    exact q1 _ (n.stp s1.sr) _ (n.wr' s1)
  · rw [if_neg hz] at q1; exact q1.elim
/-- a constant -/
theorem rd_c {v : V} {x : D} (h : PE X e (tC v)) (r : ∀ H, RD X.K X.w H v x) : PE X e (rdW X.K X.w fa Ex fun ρ => .ok (.d x) ρ) :=
  PE.weak h fun σ H Q ⟨ρ, sr, q⟩ => q H (Stp.refl _ _ _ sr) v (WR.dat (r H))
/-- and, or, as values -/
theorem rd_and {f g : Sl → O W} (h : PE X e (tAndV (rdD X.K X.w fa Ex fun ρ => dat (f ρ)) (rdW X.K X.w fa Ex g))) :
    PE X e (rdW X.K X.w fa Ex fun ρ => (dat (f ρ)).bind fun x ρ => match x with
    | .bool true => g ρ
    | .bool false => .ok (.d (.bool false)) ρ
    | _ => .bad) := by
  refine PE.weak h fun σ H Q ⟨ρ, sr, q⟩ => ?_
  refine ⟨ρ, sr, q.bind.imp fun x ρ1 H1 s1 q1 v rv => ?_⟩
  cases x with
  | bool b =>
    cases rv
    cases b with
    | true =>
      refine ⟨true, rfl, ?_⟩
      rw [if_pos rfl]
      refine ⟨ρ1, s1.sr, Rdg.imp q1 fun w ρ2 H2 s2 q2 u ru => q2 u ⟨ru.rw, ru.nun, ru.lk, fun a h1 h2 => ⟨?_, (ru.fr a h1 h2).2⟩⟩⟩
      rcases (ru.fr a h1 h2).1 with z | z
      · exact .inl (s1.dom a z)
      · exact (s1.ow a z).elim .inr .inl
    | false =>
      refine ⟨false, rfl, ?_⟩
      rw [if_neg (by decide)]
      exact q1 H1 (Stp.refl _ _ _ s1.sr) _ (WR.dat (.bl _))
  | _ => exact q1.elim
theorem rd_or {f g : Sl → O W} (h : PE X e (tOrV (rdD X.K X.w fa Ex fun ρ => dat (f ρ)) (rdW X.K X.w fa Ex g))) :
    PE X e (rdW X.K X.w fa Ex fun ρ => (dat (f ρ)).bind fun x ρ => match x with
    | .bool true => .ok (.d (.bool true)) ρ
    | .bool false => g ρ
    | _ => .bad) := by
  refine PE.weak h fun σ H Q ⟨ρ, sr, q⟩ => ?_
  refine ⟨ρ, sr, q.bind.imp fun x ρ1 H1 s1 q1 v rv => ?_⟩
  cases x with
  | bool b =>
    cases rv
    cases b with
    | false =>
      refine ⟨false, rfl, ?_⟩
      rw [if_neg (by decide)]
      refine ⟨ρ1, s1.sr, Rdg.imp q1 fun w ρ2 H2 s2 q2 u ru => q2 u ⟨ru.rw, ru.nun, ru.lk, fun a h1 h2 => ⟨?_, (ru.fr a h1 h2).2⟩⟩⟩
      rcases (ru.fr a h1 h2).1 with z | z
      · exact .inl (s1.dom a z)
      · exact (s1.ow a z).elim .inr .inl
    | true =>
      refine ⟨true, rfl, ?_⟩
      rw [if_pos rfl]
      exact q1 H1 (Stp.refl _ _ _ s1.sr) _ (WR.dat (.bl _))
  | _ => exact q1.elim
theorem WR.later {σ : L2.St} {ρ ρ1 ρ2 : Sl} {H H1 H2 : Hp} {u : V} {w : W} (s1 : Stp X.K X.w fa σ ρ H σ ρ1 H1) (ru : WR (K := X.K) (wd := X.w) (fa := fa) σ ρ1 H1 ρ2 H2 u w) : WR (K := X.K) (wd := X.w) (fa := fa) σ ρ H ρ2 H2 u w :=
  ⟨ru.rw, ru.nun, ru.lk, fun a h1 h2 => ⟨(ru.fr a h1 h2).1.elim (fun z => .inl (s1.dom a z)) (fun z => (s1.ow a z).elim .inr .inl), (ru.fr a h1 h2).2⟩⟩
theorem rd_ife {c : Sl → O Bool} {f g : Sl → O W} (h : PE X e (tIf (rdT X.K X.w fa Ex c) (rdW X.K X.w fa Ex f) (rdW X.K X.w fa Ex g))) :
    PE X e (rdW X.K X.w fa Ex fun ρ => (c ρ).bind fun t ρ => if t then f ρ else g ρ) := by
  refine PE.weak h fun σ H Q ⟨ρ, sr, q⟩ => ?_
  refine ⟨ρ, sr, q.bind.imp fun t ρ1 H1 s1 q1 => ?_⟩
  cases t with
  | true => exact ⟨ρ1, s1.sr, Rdg.imp q1 fun w ρ2 H2 s2 q2 u ru => q2 u (ru.later s1)⟩
  | false => exact ⟨ρ1, s1.sr, Rdg.imp q1 fun w ρ2 H2 s2 q2 u ru => q2 u (ru.later s1)⟩
/-- an operator's two values, tested -/
theorem rd_opT {g : D → D → Option Bool} (h : PT X e (tTest (tOp (rOp X.K X.w (cB g)) (rdA X.K X.w fa Ex fA) (rdA X.K X.w fa Ex fB)))) :
    PT X e (rdT X.K X.w fa Ex fun ρ => (fA ρ).bind fun a ρ => (fB ρ).bind fun b ρ => match a.at ρ, b.at ρ with
    | some x, some y => (match g x y with
      | some t => .ok t ρ
      | none => .bad)
    | _, _ => .bad) := by
  refine PT.weak h fun σ H Q ⟨ρ, sr, q⟩ => ?_
  refine ⟨ρ, sr, q.bind.imp fun a ρ1 H1 s1 q1 v rv => ?_⟩
  refine ⟨ρ1, s1.sr, q1.bind.imp fun b ρ2 H2 s2 q2 u ru => ?_⟩
  cases ex : a.at ρ2 with
  | none => rw [ex] at q2; exact q2.elim
  | some x =>
    cases ey : b.at ρ2 with
    | none => rw [ex, ey] at q2; exact q2.elim
    | some y =>
      rw [ex, ey] at q2
      dsimp only at q2
      cases eg : g x y with
      | none => rw [eg] at q2; exact q2.elim
      | some t =>
        rw [eg] at q2
        refine ⟨x, y, .d (.bool t), (rv.mono s2.mo).rp s2.sr ex, ru.rp s2.sr ey, by unfold cB; rw [eg]; rfl, fun z H' n => ?_⟩
        cases n with
        | same r => cases r; exact ⟨t, rfl, q2 H2 (Stp.refl _ _ _ s2.sr)⟩
end
end FF
end
section
set_option Elab.async false
set_option linter.all false
set_option maxRecDepth 100000
set_option maxHeartbeats 1000000
/-! FO: chains, tests, slices, appends, displays of dicts. -/
namespace FF
open PySem PySem.Spec PyProof.Rows L2 PySem.W
section
variable {X : Cx} {fa : Nat → Addr} {Ex : Nat → Hp → Prop} {fA fB fC : Sl → O A} {e : Expr}
theorem cB_get {g : D → D → Option Bool} {K : PySem.W.Frag} {wd : World} {x y : V} {H : Hp} {Q : VK} {a b : D} {t : Bool} (ra : RP K wd H x a) (rb : RP K wd H y b) (eg : g a b = some t) (q : Q (.bl t) H) : rOp K wd (cB g) x y H Q := by
  refine ⟨a, b, .d (.bool t), ra, rb, by unfold cB; rw [eg]; rfl, fun z H' n => ?_⟩
  cases n with
  | same r => cases r; exact q
theorem rd_chain {g g' : D → D → Option Bool} (h : PE X e (tChain (rOp X.K X.w (cB g)) (rOp X.K X.w (cB g')) (rdA X.K X.w fa Ex fA) (rdA X.K X.w fa Ex fB) (rdA X.K X.w fa Ex fC))) :
    PE X e (rdW X.K X.w fa Ex fun ρ => (fA ρ).bind fun a ρ => (fB ρ).bind fun b ρ => a.get ρ fun x => b.get ρ fun y => match g x y with
    | some true => (fC ρ).bind fun c ρ => b.get ρ fun y => c.get ρ fun z => okD ((g' y z).map .bool) ρ
    | some false => .ok (.d (.bool false)) ρ
    | none => .bad) := by
  refine PE.weak h fun σ H Q ⟨ρ, sr, q⟩ => ?_
  refine ⟨ρ, sr, q.bind.imp fun a ρ1 H1 s1 q1 v rv => ?_⟩
  refine ⟨ρ1, s1.sr, q1.bind.imp fun b ρ2 H2 s2 q2 u ru => ?_⟩
  obtain ⟨x, ex, q3⟩ := Rdg.getd (β := Unit) q2
  obtain ⟨y, ey, q4⟩ := Rdg.getd (β := Unit) q3
  have r1 := (rv.mono s2.mo).rp s2.sr ex
  have r2 := ru.rp s2.sr ey
  cases eg : g x y with
  | none => rw [eg] at q4; exact q4.elim
  | some t =>
    rw [eg] at q4
    refine cB_get r1 r2 eg ⟨t, rfl, ?_⟩
    cases t with
    | false =>
      rw [if_neg (by decide)]
      exact q4 H2 (Stp.refl _ _ _ s2.sr) _ (WR.dat (.bl _))
    | true =>
      rw [if_pos rfl]
      refine ⟨ρ2, s2.sr, Rdg.imp (Rdg.bind q4) fun c ρ3 H3 s3 q5 w rw' => ?_⟩
      obtain ⟨y', ey', q6⟩ := Rdg.getd (β := Unit) q5
      obtain ⟨z, ez, q7⟩ := Rdg.getd (β := Unit) q6
      unfold okD at q7
      cases eg' : g' y' z with
      | none => rw [eg'] at q7; exact q7.elim
      | some t' =>
        rw [eg'] at q7
        exact cB_get ((ru.mono s3.mo).rp s3.sr ey') (rw'.rp s3.sr ez) eg' (q7 H3 (Stp.refl _ _ _ s3.sr) _ (WR.dat (.bl _)))
theorem rd_chainT {g g' : D → D → Option Bool} (h : PT X e (tTest (tChain (rOp X.K X.w (cB g)) (rOp X.K X.w (cB g')) (rdA X.K X.w fa Ex fA) (rdA X.K X.w fa Ex fB) (rdA X.K X.w fa Ex fC)))) :
    PT X e (rdT X.K X.w fa Ex fun ρ => (fA ρ).bind fun a ρ => (fB ρ).bind fun b ρ => match a.at ρ, b.at ρ with
    | some x, some y => (match g x y with
      | some true => (fC ρ).bind fun c ρ => (match b.at ρ, c.at ρ with
        | some y, some z => (match g' y z with
          | some t => .ok t ρ
          | none => .bad)
        | _, _ => .bad)
      | some false => .ok false ρ
      | none => .bad)
    | _, _ => .bad) := by
  refine PT.weak h fun σ H Q ⟨ρ, sr, q⟩ => ?_
  refine ⟨ρ, sr, q.bind.imp fun a ρ1 H1 s1 q1 v rv => ?_⟩
  refine ⟨ρ1, s1.sr, q1.bind.imp fun b ρ2 H2 s2 q2 u ru => ?_⟩
  cases ex : a.at ρ2 with
  | none => rw [ex] at q2; exact q2.elim
  | some x =>
    cases ey : b.at ρ2 with
    | none => rw [ex, ey] at q2; exact q2.elim
    | some y =>
      rw [ex, ey] at q2
      dsimp only at q2
      have r1 := (rv.mono s2.mo).rp s2.sr ex
      have r2 := ru.rp s2.sr ey
      cases eg : g x y with
      | none => rw [eg] at q2; exact q2.elim
      | some t =>
        rw [eg] at q2
        refine cB_get r1 r2 eg ⟨t, rfl, ?_⟩
        cases t with
        | false =>
          rw [if_neg (by decide)]
          exact ⟨false, rfl, q2 H2 (Stp.refl _ _ _ s2.sr)⟩
        | true =>
          rw [if_pos rfl]
          refine ⟨ρ2, s2.sr, Rdg.imp (Rdg.bind q2) fun c ρ3 H3 s3 q5 w rw' => ?_⟩
          cases ey' : b.at ρ3 with
          | none => rw [ey'] at q5; exact q5.elim
          | some y' =>
            cases ez : c.at ρ3 with
            | none => rw [ey', ez] at q5; exact q5.elim
            | some z =>
              rw [ey', ez] at q5
              dsimp only at q5
              cases eg' : g' y' z with
              | none => rw [eg'] at q5; exact q5.elim
              | some t' =>
                rw [eg'] at q5
                exact cB_get ((ru.mono s3.mo).rp s3.sr ey') (rw'.rp s3.sr ez) eg' ⟨t', rfl, q5 H3 (Stp.refl _ _ _ s3.sr)⟩

/-! ### truth of a value -/
theorem rd_tru {f : Sl → O W} (he : PE X e (rdW X.K X.w fa Ex f)) (ht : ∀ whole, isTrue e X.env whole = (do let v ← whole; standAt e.pos; holding [v] (truthy v))) :
    PT X e (rdT X.K X.w fa Ex fun ρ => (f ρ).bind fun w ρ => match w.data with
    | some x => truM x ρ
    | none => .bad) := by
  refine PT.weak (pt_truth he ht) fun σ H Q ⟨ρ, sr, q⟩ => ?_
  refine ⟨ρ, sr, q.bind.imp fun w ρ1 H1 s1 q1 v rv => ?_⟩
  cases ew : w.data with
  | none => rw [ew] at q1; exact q1.elim
  | some x =>
    rw [ew] at q1
    dsimp only at q1
    unfold truM at q1
    cases et : truO x with
    | none => rw [et] at q1; exact q1.elim
    | some t =>
      rw [et] at q1
      exact ⟨t, tru_V (rv.rw.rp ew) et, q1 H1 (Stp.refl _ _ _ s1.sr)⟩
theorem rd_truA {f : Sl → O A} (he : PE X e (rdA X.K X.w fa Ex f)) (ht : ∀ whole, isTrue e X.env whole = (do let v ← whole; standAt e.pos; holding [v] (truthy v))) :
    PT X e (rdT X.K X.w fa Ex fun ρ => (f ρ).bind fun a ρ => match a.at ρ with
    | some x => truM x ρ
    | none => .bad) := by
  refine PT.weak (pt_truth he ht) fun σ H Q ⟨ρ, sr, q⟩ => ?_
  refine ⟨ρ, sr, q.bind.imp fun w ρ1 H1 s1 q1 v rv => ?_⟩
  cases ew : w.at ρ1 with
  | none => rw [ew] at q1; exact q1.elim
  | some x =>
    rw [ew] at q1
    dsimp only at q1
    unfold truM at q1
    cases et : truO x with
    | none => rw [et] at q1; exact q1.elim
    | some t =>
      rw [et] at q1
      exact ⟨t, tru_V (rv.rp s1.sr ew) et, q1 H1 (Stp.refl _ _ _ s1.sr)⟩
theorem rd_andT {f g : Sl → O Bool} (h : PT X e (tAnd (rdT X.K X.w fa Ex f) (rdT X.K X.w fa Ex g))) :
    PT X e (rdT X.K X.w fa Ex fun ρ => (f ρ).bind fun t ρ => if t then g ρ else .ok false ρ) := by
  refine PT.weak h fun σ H Q ⟨ρ, sr, q⟩ => ?_
  refine ⟨ρ, sr, q.bind.imp fun t ρ1 H1 s1 q1 => ?_⟩
  cases t with
  | true => exact ⟨ρ1, s1.sr, q1⟩
  | false => exact q1 H1 (Stp.refl _ _ _ s1.sr)
theorem rd_orT {f g : Sl → O Bool} (h : PT X e (tOr (rdT X.K X.w fa Ex f) (rdT X.K X.w fa Ex g))) :
    PT X e (rdT X.K X.w fa Ex fun ρ => (f ρ).bind fun t ρ => if t then .ok true ρ else g ρ) := by
  refine PT.weak h fun σ H Q ⟨ρ, sr, q⟩ => ?_
  refine ⟨ρ, sr, q.bind.imp fun t ρ1 H1 s1 q1 => ?_⟩
  cases t with
  | false => exact ⟨ρ1, s1.sr, q1⟩
  | true => exact q1 H1 (Stp.refl _ _ _ s1.sr)
theorem rd_notT {f : Sl → O Bool} (h : PT X e (tNot (rdT X.K X.w fa Ex f))) :
    PT X e (rdT X.K X.w fa Ex fun ρ => (f ρ).bind fun t ρ => .ok (!t) ρ) := by
  refine PT.weak h fun σ H Q ⟨ρ, sr, q⟩ => ?_
  exact ⟨ρ, sr, q.bind.imp fun t ρ1 H1 s1 q1 => q1 H1 (Stp.refl _ _ _ s1.sr)⟩

/-! ### slices -/
def rdO (K : PySem.W.Frag) (wd : World) (fa : Nat → Addr) (Ex : Nat → Hp → Prop) (f : Sl → O (Option Int)) : TO := fun σ H Q => ∃ ρ, SR K wd fa σ ρ H ∧ Rdg (K := K) (wd := wd) (fa := fa) Ex (f ρ) σ ρ H fun o _ H' => Q o H'
theorem PO.weak {a : Option Expr} {t t' : TO} (h : PO X a t) (f : ∀ σ H Q, t' σ H Q → t σ H Q) : PO X a t' := ⟨fun pins s σ H Q I q => h.run pins s σ H Q I (f σ H Q q)⟩
theorem po_non : PO X none (rdO X.K X.w fa Ex fun ρ => .ok none ρ) := PO.weak po_none fun σ H Q ⟨ρ, sr, q⟩ => q H (Stp.refl _ _ _ sr)
theorem po_som {f : Sl → O D} (h : PE X e (rdD X.K X.w fa Ex f)) : PO X (some e) (rdO X.K X.w fa Ex fun ρ => (f ρ).bind fun x ρ => match x with
    | .int i => .ok (some i) ρ
    | _ => .bad) := by
  refine PO.weak (po_some h) fun σ H Q ⟨ρ, sr, q⟩ => ?_
  refine ⟨ρ, sr, q.bind.imp fun x ρ1 H1 s1 q1 v rv => ?_⟩
  cases x with
  | int i => cases rv; exact ⟨i, rfl, q1 H1 (Stp.refl _ _ _ s1.sr)⟩
  | _ => exact q1.elim
theorem rd_slc {lo hi : Option Expr} {pos p2 : Pos} {fl fh : Sl → O (Option Int)} (he : PE X e (rdA X.K X.w fa Ex fA)) (hl : PO X lo (rdO X.K X.w fa Ex fl)) (hh : PO X hi (rdO X.K X.w fa Ex fh)) :
    PE X (.Subscript e (.Slice lo hi none p2) pos) (rdW X.K X.w fa Ex fun ρ => (fA ρ).bind fun a ρ => (fl ρ).bind fun l ρ => (fh ρ).bind fun h ρ => a.get ρ fun x => okW (slcW x l h) ρ) := by
  refine PE.weak (pe_slice ev_slc he hl hh) fun σ H Q ⟨ρ, sr, q⟩ => ?_
  refine ⟨ρ, sr, q.bind.imp fun a ρ1 H1 s1 q1 v rv => ?_⟩
  refine ⟨ρ1, s1.sr, q1.bind.imp fun l ρ2 H2 s2 q2 => ?_⟩
  refine ⟨ρ2, s2.sr, q2.bind.imp fun h ρ3 H3 s3 q3 => ?_⟩
  obtain ⟨x, ex, q4⟩ := Rdg.getd (β := Unit) q3
  obtain ⟨w, ew, q5⟩ := q4.end_
  exact ⟨x, w, ((rv.mono s2.mo).mono s3.mo).rp s3.sr ex, ew, fun z H' n => q5 H' (n.stp s3.sr) z (n.wr' ((s1.trans s2).trans s3))⟩
end

/-! ### an owned object is written -/
section
variable {K : PySem.W.Frag} {wd : World} {fa : Nat → Addr} {σ : L2.St} {ρ : Sl} {H : Hp}
theorem Mo.write {a : Addr} {u o : HO} (e : H a = some u) (m : MuA a u) : Mo H (upd H a o) := by
  refine ⟨fun b xs q => ?_, fun b o' u' q => ?_, fun P t => tab_write e m t⟩
  · rw [upd_ne (fun z => by rw [z, e] at q; cases q; exact m.1)]; exact q
  · rw [upd_ne (fun z => by rw [z, e] at q; cases q; exact m.1)]; exact q
theorem Stp.write {i : Nat} {a : Addr} {w w' : W} {u o : HO} (s : SR K wd fa σ ρ H) (ei : ρ[i]? = some w) (ow : w.own = true) (es : σ[i]? = some (some (.ref a))) (e : H a = some u) (m : MuA a u) (ow' : w'.own = true) (r : RW K wd fa (upd H a o) (.ref a) w') :
    Stp K wd fa σ ρ H σ (ρ.set i w') (upd H a o) := by
  have mo : Mo H (upd H a o) := Mo.write e m
  have hoi : Ho σ ρ i a := ⟨w, ei, W.hold_of_own ow, es⟩
  have hoS : ∀ {j b}, Ho σ (ρ.set i w') j b → Ho σ ρ j b := fun {j b} h => by
    rcases h.of_set with ⟨rfl, _, q⟩ | ⟨_, q⟩
    · rw [es] at q; cases q; exact hoi
    · exact q
  refine ⟨⟨by rw [List.length_set]; exact s.len, fun j x ej => ?_, fun j k b h1 h2 => s.ap j k b (hoS h1) (hoS h2), fun h => mo.tab _ (s.tab h)⟩, mo, fun b o' q _ n => ?_, fun b h => .inl ?_, fun b ⟨j, h⟩ => .inl ⟨j, hoS h⟩, fun b q => ?_⟩
  · rcases get_set ej with ⟨rfl, rfl, _⟩ | ⟨nj, ej⟩
    · exact .inr ⟨_, es, r⟩
    · rcases s.rw j x ej with q | ⟨v, q1, q2⟩
      · exact .inl q
      · refine .inr ⟨v, q1, q2.mono mo fun b o' eb hh qb => ?_⟩
        rw [upd_ne (fun z => ?_)]
        · exact qb
        · subst z
          exact nj (s.ap j i b ⟨x, ej, hh, by rw [q1, eb]⟩ hoi)
  · rw [upd_ne (fun z => n (by rw [z]; exact ⟨i, w, ei, ow, es⟩))]; exact q
  · rcases h.of_set with ⟨_, q⟩ | q
    · rw [es] at q; cases q; exact ⟨i, w, ei, ow, es⟩
    · exact q
  · by_cases hb : b = a
    · rw [hb, upd_same] at q; cases q
    · rw [upd_ne hb] at q; exact q
end
end FF
end
section
set_option Elab.async false
set_option linter.all false
set_option maxRecDepth 100000
set_option maxHeartbeats 1000000
/-! FP: methods. -/
namespace FF
open PySem PySem.Spec PyProof.Rows L2 PySem.W
section
variable {X : Cx}
/-- a name of the slots -/
structure Nm (X : Cx) (i : Nat) (x : Str) : Prop where
  at_ : X.N[i]? = some x
  vis : Vis X.env.scope x
  nd : (x == ("__debug__" : Str)) = false
  nc : (x == ("__classdict__" : Str)) = false
theorem mt_extR : MtM X "list.extend" (fun x vs H Q => ∃ l b xs zs, x = .ref l ∧ vs = [.ref b] ∧ H l = some (.lst xs) ∧ RdL X.K H b zs ∧ xs.length + zs.length ≤ sizeLine ∧ Q .non (upd H l (.lst (xs ++ zs)))) := by
  intro pins s σ H x vs v us Q I rx rv h
  obtain ⟨l, b, xs, zs, rfl, rfl, hl, hb, hz, q⟩ := h
  cases rx
  obtain ⟨u, rfl, ru⟩ := rv.one
  cases ru
  obtain ⟨_, w1, n1, r1, l1, o1⟩ := I.lstM hl
  obtain ⟨_, w2, n2, r2, l2, o2⟩ := I.lstR hb
  have cap : w1.toArray.size + w2.toArray.size ≤ sizeLine := by
    rw [List.size_toArray, List.size_toArray, ← l1, ← l2]
    exact hz
  have nl : ¬ (!w1.toArray.isEmpty && Builtin.List.listTooLong (w1.toArray.size + w2.toArray.size)) = true := fun z => by
    rw [notLongL cap, Bool.and_false] at z
    cases z
  refine call_meets F.slot_list_extend ⟨_, o1, rfl⟩ F.entry_list_extend (F.args_list_extend_2 _ _) (AutoSeq1.list_extend_list_list_0 l w1.toArray n1 b w2.toArray n2 nl ?_ ?_) ⟨o1, o2, ?_⟩
  · exact Nat.le_trans (Nat.le_add_right _ _) cap
  · exact Nat.le_succ_of_le cap
  · refine ⟨.non, _, I.lset (its' := w1 ++ w2) hl o1 (by simp) (r1.append r2) ?_, rfl, q⟩
    rw [List.length_append]
    exact hz
section
variable {fa : Nat → Addr} {Ex : Nat → Hp → Prop} {e : Expr} {i : Nat} {x : Str} {p apos cpos : Pos}
theorem attr_name {pos : Pos} {m : Str} {env : Env} : attributeBase (.Name x pos) m env (eval (.Name x pos) env) = eval (.Name x pos) env := rfl
/-- x.append(e) -/
theorem rd_app {f : Sl → O D} (n : Nm X i x) (he : PE X e (rdD X.K X.w fa Ex f)) (hs : starEach [e] X.env = (false, eval e X.env) :: starEach [] X.env) (hl : (apos.endLine == cpos.line) = true) :
    PE X (.Call (.Attribute (.Name x p) "append" apos) [e] [] cpos) (rdW X.K X.w fa Ex fun ρ => match ρ[i]? with
    | some (.ol _) => (f ρ).bind fun y ρ => (match ρ[i]? with
      | some (.ol xs) => if xs.length < sizeLine then .ok (.d .none) (ρ.set i (.ol (xs ++ [y]))) else .bad
      | _ => .bad)
    | _ => .bad) := by
  refine PE.weak (pe_bm F.plainAttrs_list F.slot_list_append F.type_list_append mt_append (pe_var (pos := p) n.at_ n.vis n.nd n.nc) (pa_cons he pa_nil hs) rfl (by rw [hs]; rfl) hl hs rfl) fun σ H Q ⟨ρ, sr, q⟩ => ?_
  dsimp only at q
  cases ew : ρ[i]? with
  | none => rw [ew] at q; exact q.elim
  | some w =>
    cases w with
    | ol xs0 =>
      rw [ew] at q
      obtain ⟨v, e1, a, vs0, rfl, h1, r1⟩ := sr.at ew (by intro z; cases z)
      refine ⟨.ref a, e1, .inl ⟨rfl, vs0, .inl (.inl h1)⟩, ρ, sr, Rdg.imp (Rdg.bind q) fun y ρ1 H1 s1 q1 u ru => ?_⟩
      cases ew1 : ρ1[i]? with
      | none => rw [ew1] at q1; exact q1.elim
      | some w1 =>
        cases w1 with
        | ol xs =>
          rw [ew1] at q1
          dsimp only at q1
          obtain ⟨v, e2, b, vs, rfl, h2, r2⟩ := s1.sr.at ew1 (by intro z; cases z)
          rw [e1] at e2
          cases e2
          by_cases hz : xs.length < sizeLine
          · rw [if_pos hz] at q1
            have mo : Mo H1 (upd H1 a (.lst (vs ++ [u]))) := Mo.write h2 mu_l
            have r3 : RDs X.K X.w (upd H1 a (.lst (vs ++ [u]))) (vs ++ [u]) (xs ++ [y]) := RDs.append (RDs.mono mo _ _ r2) (.cons (RD.mono mo _ _ ru) .nil)
            refine ⟨a, vs, u, rfl, rfl, h2, by rw [r2.length]; exact hz, ?_⟩
            exact q1 _ (Stp.write s1.sr ew1 rfl e1 h2 mu_l rfl ⟨a, _, rfl, upd_same, r3⟩) _ (WR.dat .non)
          · rw [if_neg hz] at q1; exact q1.elim
        | _ => rw [ew1] at q1; exact q1.elim
    | _ => rw [ew] at q; exact q.elim

end
/-- a method that changes its list -/
def MOk (K : PySem.W.Frag) (wd : World) (m : Mt) (r : V → List V → Hp → VK → Prop) : Prop := ∀ H l vs0 xs0 vs xs w' res Q, H l = some (.lst vs0) → RDs K wd H vs0 xs0 → RPs K wd H vs xs → mtOwn m (.ol xs0) xs = some (w', res) →
  (∀ us ys v x, w' = .ol ys → res = .d x → RDs K wd H us ys → RD K wd H v x → Q v (upd H l (.lst us))) → r (.ref l) vs H Q
theorem ok_ext {K : PySem.W.Frag} {wd : World} : MOk K wd .extend (fun x vs H Q => ∃ l b xs zs, x = .ref l ∧ vs = [.ref b] ∧ H l = some (.lst xs) ∧ RdL K H b zs ∧ xs.length + zs.length ≤ sizeLine ∧ Q .non (upd H l (.lst (xs ++ zs)))) := by
  intro H l vs0 xs0 vs xs w' res Q h1 r0 r e q
  match xs, r, e with
  | [.list ys], r, e =>
    obtain ⟨v, rfl, b, us, rfl, h2, r2⟩ := r.one
    simp only [mtOwn] at e
    split at e
    · rename_i hz
      cases e
      exact ⟨l, b, vs0, us, rfl, rfl, h1, h2, by rw [r0.length, r2.length]; exact hz, q _ _ _ _ rfl rfl (r0.append r2) .non⟩
    · cases e
theorem ok_pop {K : PySem.W.Frag} {wd : World} : MOk K wd .pop rPop := by
  intro H l vs0 xs0 vs xs w' res Q h1 r0 r e q
  match xs, r, e with
  | [], r, e =>
    cases r.nil_
    simp only [mtOwn] at e
    obtain ⟨y, e1, e2⟩ := Option.map_eq_some_iff.mp e
    cases e2
    obtain ⟨v, g1, g2⟩ := r0.get e1
    exact ⟨l, vs0, v, rfl, rfl, h1, by rw [r0.length]; exact g1, q _ _ _ _ rfl rfl r0.dropLast g2⟩
theorem ok_popAt {K : PySem.W.Frag} {wd : World} : MOk K wd .popAt rPopAt := by
  intro H l vs0 xs0 vs xs w' res Q h1 r0 r e q
  match xs, r, e with
  | [.int i], r, e =>
    obtain ⟨v, rfl, ri⟩ := r.one
    cases ri.int
    simp only [mtOwn] at e
    split at e
    · rename_i hz
      obtain ⟨y, e1, e2⟩ := Option.map_eq_some_iff.mp e
      cases e2
      obtain ⟨v, g1, g2⟩ := r0.get e1
      have hlt : i.toNat < xs0.length := by
        have := List.getElem?_eq_some_iff.mp e1
        exact this.1
      refine ⟨l, vs0, i, i.toNat, v, rfl, rfl, h1, by omega, hz.2, ?_, g1, q _ _ _ _ rfl rfl (r0.eraseIdx _) g2⟩
      rw [seqIndex_of hz.1 (by rw [r0.length]; omega)]
    · cases e
section
variable {fa : Nat → Addr} {Ex : Nat → Hp → Prop} {e : Expr} {es : List Expr} {i : Nat} {x : Str} {p apos cpos : Pos} {m : Mt} {id : String} {name : Str} {r : V → List V → Hp → VK → Prop}
theorem own_ol : ∀ {m : Mt} {w w' r : W} {xs : List D}, mtOwn m w xs = some (w', r) → (∃ zs, w = .ol zs) ∧ (∃ ys, w' = .ol ys) ∧ ∃ x, r = .d x := by
  intro m w w' r xs e
  unfold mtOwn at e
  split at e
  · split at e
    · cases e; exact ⟨⟨_, rfl⟩, ⟨_, rfl⟩, ⟨_, rfl⟩⟩
    · cases e
  · obtain ⟨y, e1, e2⟩ := Option.map_eq_some_iff.mp e
    cases e2; exact ⟨⟨_, rfl⟩, ⟨_, rfl⟩, ⟨_, rfl⟩⟩
  · split at e
    · obtain ⟨y, e1, e2⟩ := Option.map_eq_some_iff.mp e
      cases e2; exact ⟨⟨_, rfl⟩, ⟨_, rfl⟩, ⟨_, rfl⟩⟩
    · cases e
  · cases e
theorem mt_end {Q : VK} {σ : L2.St} {H H1 : Hp} {ρ ρ1 : Sl} {as : List A} {vs : List V} {a : Addr} (ok : MOk X.K X.w m r) (s1 : Stp X.K X.w fa σ ρ H σ ρ1 H1) (e1 : σ[i]? = some (some (.ref a))) (rvs : ARs (K := X.K) (wd := X.w) (fa := fa) σ H1 vs as)
    (q : Rdg (K := X.K) (wd := X.w) (fa := fa) Ex (if (slotsOf as).contains i then .bad else (match ρ1[i]?, ats ρ1 as with
        | some w, some xs => (match mtOwn m w xs with
          | some (w', r) => .ok r (ρ1.set i w')
          | none => .bad)
        | _, _ => .bad)) σ ρ1 H1 fun w ρ' H' => ∀ v, WR (K := X.K) (wd := X.w) (fa := fa) σ ρ H ρ' H' v w → Q v H') : r (.ref a) vs H1 Q := by
  split at q
  · exact q.elim
  · cases ew : ρ1[i]? with
    | none => rw [ew] at q; exact q.elim
    | some w =>
      cases ea : ats ρ1 as with
      | none => rw [ew, ea] at q; exact q.elim
      | some xs =>
        rw [ew, ea] at q
        dsimp only at q
        cases em : mtOwn m w xs with
        | none => rw [em] at q; exact q.elim
        | some p =>
          obtain ⟨w', res⟩ := p
          rw [em] at q
          dsimp only at q
          obtain ⟨⟨zs, rfl⟩, ⟨ys, rfl⟩, ⟨y, rfl⟩⟩ := own_ol em
          obtain ⟨v, e2, b, ws, rfl, h2, r2⟩ := s1.sr.at ew (by intro z; cases z)
          rw [e1] at e2
          cases e2
          refine ok H1 a ws zs vs xs _ _ Q h2 r2 (rvs.rps s1.sr ea) em fun us ys' v x g1 g2 r3 r4 => ?_
          cases g1
          cases g2
          have mo : Mo H1 (upd H1 a (.lst us)) := Mo.write h2 mu_l
          exact q _ (Stp.write s1.sr ew rfl e1 h2 mu_l rfl ⟨a, _, rfl, upd_same, RDs.mono mo _ _ r3⟩) _ (WR.dat (RD.mono mo _ _ r4))
/-- x.m(..) that changes the list x -/
theorem rd_mto {fs : Sl → O (List A)} (ok : MOk X.K X.w m r) (slot : Slot "list" name id) (hty : typeOf (.builtin id) = pure (.type "method_descriptor")) (hm : MtM X id r) (n : Nm X i x) (ha : PA X (e :: es) (rdAs X.K X.w fa Ex fs))
    (hs : starEach (e :: es) X.env = (false, eval e X.env) :: starEach es X.env) (hl : (apos.endLine == cpos.line) = true)
    (hfew : ((backTo cpos (starEach (e :: es) X.env)).all (fun x => !x.1) && (backToKw cpos (keywordEach [] X.env)).all (fun x => x.1.isSome)
      && decide ((e :: es).length + ([] : List Keyword).length + (if ([] : List Keyword).isEmpty then 0 else 1) < 30)) = true) (hplain : (backTo cpos (starEach es X.env)).any (·.1) = false) :
    PE X (.Call (.Attribute (.Name x p) name apos) (e :: es) [] cpos) (rdW X.K X.w fa Ex fun ρ => match ρ[i]? with
    | some (.ol _) => (fs ρ).bind fun as ρ => if (slotsOf as).contains i then .bad else (match ρ[i]?, ats ρ as with
      | some w, some xs => (match mtOwn m w xs with
        | some (w', r) => .ok r (ρ.set i w')
        | none => .bad)
      | _, _ => .bad)
    | _ => .bad) := by
  refine PE.weak (pe_bm F.plainAttrs_list slot hty hm (pe_var (pos := p) n.at_ n.vis n.nd n.nc) ha rfl hfew hl hs hplain) fun σ H Q ⟨ρ, sr, q⟩ => ?_
  dsimp only at q
  cases ew : ρ[i]? with
  | none => rw [ew] at q; exact q.elim
  | some w =>
    cases w with
    | ol xs0 =>
      rw [ew] at q
      obtain ⟨v, e1, a, vs0, rfl, h1, r1⟩ := sr.at ew (by intro z; cases z)
      refine ⟨.ref a, e1, .inl ⟨rfl, vs0, .inl (.inl h1)⟩, ρ, sr, Rdg.imp (Rdg.bind q) fun as ρ1 H1 s1 q1 vs rvs => mt_end ok s1 e1 rvs q1⟩
    | _ => rw [ew] at q; exact q.elim
theorem rd_mto0 (ok : MOk X.K X.w m r) (slot : Slot "list" name id) (hty : typeOf (.builtin id) = pure (.type "method_descriptor")) (hm : MtM X id r) (n : Nm X i x) (hl : (apos.endLine == cpos.line) = true) :
    PE X (.Call (.Attribute (.Name x p) name apos) [] [] cpos) (rdW X.K X.w fa Ex fun ρ => match ρ[i]? with
    | some (.ol _) => (O.ok [] ρ : O (List A)).bind fun as ρ => if (slotsOf as).contains i then .bad else (match ρ[i]?, ats ρ as with
      | some w, some xs => (match mtOwn m w xs with
        | some (w', r) => .ok r (ρ.set i w')
        | none => .bad)
      | _, _ => .bad)
    | _ => .bad) := by
  refine PE.weak (pe_bm0 F.plainAttrs_list slot hty hm (pe_var (pos := p) n.at_ n.vis n.nd n.nc) rfl hl) fun σ H Q ⟨ρ, sr, q⟩ => ?_
  dsimp only at q
  cases ew : ρ[i]? with
  | none => rw [ew] at q; exact q.elim
  | some w =>
    cases w with
    | ol xs0 =>
      rw [ew] at q
      obtain ⟨v, e1, a, vs0, rfl, h1, r1⟩ := sr.at ew (by intro z; cases z)
      refine ⟨.ref a, e1, .inl ⟨rfl, vs0, .inl (.inl h1)⟩, mt_end (Ex := Ex) (as := []) (vs := []) ok (Stp.refl _ _ _ sr) e1 trivial ?_⟩
      exact q
    | _ => rw [ew] at q; exact q.elim
end
end
end FF
end
section
set_option Elab.async false
set_option linter.all false
set_option maxRecDepth 100000
set_option maxHeartbeats 1000000
/-! FQ: slots are set; targets. -/
namespace FF
open PySem PySem.Spec PyProof.Rows L2 PySem.W
section
variable {K : PySem.W.Frag} {wd : World} {fa : Nat → Addr}
/-- a step that leaves the slots of P as they are -/
structure StpV (K : PySem.W.Frag) (wd : World) (fa : Nat → Addr) (P : Nat → Prop) (σ : L2.St) (ρ : Sl) (H : Hp) (σ' : L2.St) (ρ' : Sl) (H' : Hp) : Prop where
  st : Stp K wd fa σ ρ H σ' ρ' H'
  kp : ∀ i, P i → σ'[i]? = σ[i]?
  len : σ'.length = σ.length
variable {P : Nat → Prop} {σ σ1 σ2 : L2.St} {ρ ρ1 ρ2 : Sl} {H H1 H2 : Hp}
theorem StpV.refl (s : SR K wd fa σ ρ H) : StpV K wd fa P σ ρ H σ ρ H := ⟨Stp.refl _ _ _ s, fun _ _ => rfl, rfl⟩
theorem StpV.trans (a : StpV K wd fa P σ ρ H σ1 ρ1 H1) (b : StpV K wd fa P σ1 ρ1 H1 σ2 ρ2 H2) : StpV K wd fa P σ ρ H σ2 ρ2 H2 :=
  ⟨a.st.trans b.st, fun i h => (b.kp i h).trans (a.kp i h), b.len.trans a.len⟩
theorem StpV.of (a : Stp K wd fa σ ρ H σ ρ1 H1) : StpV K wd fa P σ ρ H σ ρ1 H1 := ⟨a, fun _ _ => rfl, rfl⟩
theorem getS_set {σ : L2.St} {i j : Nat} {v : V} {o : Option V} (e : (σ.set i (some v))[j]? = some o) : (j = i ∧ o = some v ∧ i < σ.length) ∨ (j ≠ i ∧ σ[j]? = some o) := by
  by_cases h : i = j
  · subst h
    by_cases hi : i < σ.length
    · rw [List.getElem?_set_self hi] at e; cases e; exact .inl ⟨rfl, rfl, hi⟩
    · rw [List.getElem?_eq_none (by simpa using hi)] at e; cases e
  · rw [List.getElem?_set_ne h] at e; exact .inr ⟨fun z => h z.symm, e⟩
/-- a value is put into a slot -/
theorem StpV.put {i : Nat} {v : V} {w : W} (s : StpV K wd fa P σ ρ H σ1 ρ1 H1) (hi : i < ρ1.length) (np : ¬ P i) (rw_ : RW K wd fa H1 v w) (nun : w ≠ .un) (lk : w.hold = w.own)
    (fr : ∀ a, w.own = true → v = .ref a → (H a = none ∨ Ow σ ρ a) ∧ ∀ i, ¬ Ho σ1 ρ1 i a) : StpV K wd fa P σ ρ H (σ1.set i (some v)) (ρ1.set i w) H1 := by
  have hl : i < σ1.length := by rw [← s.st.sr.len]; exact hi
  have hoS : ∀ {j b}, Ho (σ1.set i (some v)) (ρ1.set i w) j b → (j = i ∧ w.hold = true ∧ v = .ref b) ∨ (j ≠ i ∧ Ho σ1 ρ1 j b) := fun {j b} ⟨x, ex, hh, es⟩ => by
    rcases get_set ex with ⟨rfl, rfl, _⟩ | ⟨nj, ex⟩
    · rw [List.getElem?_set_self hl] at es
      cases es
      exact .inl ⟨rfl, hh, rfl⟩
    · rw [List.getElem?_set_ne (fun z => nj z.symm)] at es
      exact .inr ⟨nj, x, ex, hh, es⟩
  refine ⟨⟨⟨?_, fun j x ex => ?_, fun j k b h1 h2 => ?_, s.st.sr.tab⟩, s.st.mo, s.st.ko, fun b h => ?_, fun b ⟨j, h⟩ => ?_, s.st.dom⟩, fun j pj => ?_, by rw [List.length_set]; exact s.len⟩
  · rw [List.length_set, List.length_set]; exact s.st.sr.len
  · rcases get_set ex with ⟨rfl, rfl, _⟩ | ⟨nj, ex⟩
    · exact .inr ⟨v, List.getElem?_set_self hl, rw_⟩
    · rw [List.getElem?_set_ne (fun z => nj z.symm)]
      exact s.st.sr.rw j x ex
  · rcases hoS h1 with ⟨rfl, g1, rfl⟩ | ⟨n1, g1⟩
    · rcases hoS h2 with ⟨rfl, _, _⟩ | ⟨n2, g2⟩
      · rfl
      · exact absurd g2 ((fr b (by rw [← lk]; exact g1) rfl).2 k)
    · rcases hoS h2 with ⟨rfl, g2, rfl⟩ | ⟨n2, g2⟩
      · exact absurd g1 ((fr b (by rw [← lk]; exact g2) rfl).2 j)
      · exact s.st.sr.ap j k b g1 g2
  · obtain ⟨j, x, ex, hh, es⟩ := h
    rcases get_set ex with ⟨rfl, rfl, _⟩ | ⟨nj, ex⟩
    · rw [List.getElem?_set_self hl] at es
      cases es
      exact (fr b hh rfl).1.symm
    · rw [List.getElem?_set_ne (fun z => nj z.symm)] at es
      exact s.st.ow b ⟨j, x, ex, hh, es⟩
  · rcases hoS h with ⟨rfl, g1, rfl⟩ | ⟨_, g1⟩
    · exact (fr b (by rw [← lk]; exact g1) rfl).1.elim .inr fun z => .inl z.ho
    · exact s.st.ho b ⟨j, g1⟩
  · rw [List.getElem?_set_ne (fun z => np (by rw [z]; exact pj))]
    exact s.kp j pj
theorem StpV.putD {i : Nat} {v : V} {x : D} (s : StpV K wd fa P σ ρ H σ1 ρ1 H1) (hi : i < ρ1.length) (np : ¬ P i) (r : RD K wd H1 v x) : StpV K wd fa P σ ρ H (σ1.set i (some v)) (ρ1.set i (.d x)) H1 :=
  s.put (w := .d x) hi np r (by intro z; cases z) rfl fun a z => nomatch z
/-- the reading of a target, for data -/
def rdG (K : PySem.W.Frag) (wd : World) (fa : Nat → Addr) (P : Nat → Prop) (Ex : Nat → Hp → Prop) (f : D → Sl → O Unit) : TG := fun v σ H Q => ∃ ρ x, SR K wd fa σ ρ H ∧ RD K wd H v x ∧ match f x ρ with
  | .ok _ ρ' => ∀ σ' H', StpV K wd fa P σ ρ H σ' ρ' H' → Q σ' H'
  | .ex c ρ' => ∀ σ' H', StpV K wd fa P σ ρ H σ' ρ' H' → Ex c H'
  | .bad => False
def rdGs (K : PySem.W.Frag) (wd : World) (fa : Nat → Addr) (P : Nat → Prop) (Ex : Nat → Hp → Prop) (f : List D → Sl → O Unit) : TGs := fun vs σ H Q => ∃ ρ xs, SR K wd fa σ ρ H ∧ RDs K wd H vs xs ∧ match f xs ρ with
  | .ok _ ρ' => ∀ σ' H', StpV K wd fa P σ ρ H σ' ρ' H' → Q σ' H'
  | .ex c ρ' => ∀ σ' H', StpV K wd fa P σ ρ H σ' ρ' H' → Ex c H'
  | .bad => False
end
theorem PG.weak {X : Cx} {e : Expr} {t t' : TG} (h : PG X e t) (f : ∀ v σ H Q, t' v σ H Q → t v σ H Q) : PG X e t' := ⟨fun pins s σ H v u Q I r q => h.run pins s σ H v u Q I r (f v σ H Q q)⟩
theorem PGs.weak {X : Cx} {e : List Expr} {t t' : TGs} (h : PGs X e t) (f : ∀ v σ H Q, t' v σ H Q → t v σ H Q) : PGs X e t' := ⟨fun pins s σ H v u Q I r q => h.run pins s σ H v u Q I r (f v σ H Q q)⟩
theorem PG.or {X : Cx} {e : Expr} {t t' : TG} (h : PG X e t) (h' : PG X e t') : PG X e (fun v σ H Q => t v σ H Q ∨ t' v σ H Q) :=
  ⟨fun pins s σ H v u Q I r q => q.elim (h.run pins s σ H v u Q I r) (h'.run pins s σ H v u Q I r)⟩
section
variable {X : Cx} {fa : Nat → Addr} {P : Nat → Prop} {Ex : Nat → Hp → Prop} {pos : Pos}
theorem gd_name {i : Nat} {x : Str} (hN : X.N.Nodup) (hi : X.N[i]? = some x) (hx : Loc X.env.scope x) (hf : X.fn x = true ∨ X.env.scope.names.lookup x = some .local) (np : ¬ P i) :
    PG X (.Name x pos) (rdG X.K X.w fa P Ex fun x ρ => if i < ρ.length then .ok () (ρ.set i (.d x)) else .bad) := by
  refine PG.weak (pg_name hN hi hx hf) fun v σ H Q ⟨ρ, x, sr, r, q⟩ => ?_
  dsimp only at q
  by_cases hl : i < ρ.length
  · rw [if_pos hl] at q
    exact q _ _ ((StpV.refl sr).putD hl np r)
  · rw [if_neg hl] at q; exact q.elim
theorem gd_nil : PGs X [] (rdGs X.K X.w fa P Ex fun xs ρ => match xs with
    | [] => .ok () ρ
    | _ => .bad) := by
  refine PGs.weak pgs_nil fun v σ H Q ⟨ρ, xs, sr, r, q⟩ => ?_
  cases xs with
  | nil => cases r; exact ⟨rfl, q _ _ (StpV.refl sr)⟩
  | cons _ _ => exact q.elim
theorem gd_cons {e : Expr} {es : List Expr} {f : D → Sl → O Unit} {fs : List D → Sl → O Unit} (h1 : PG X e (rdG X.K X.w fa P Ex f)) (h2 : PGs X es (rdGs X.K X.w fa P Ex fs))
    (hs : (assignEach (e :: es) X.env).map (·.2) = assign e X.env :: (assignEach es X.env).map (·.2)) : PGs X (e :: es) (rdGs X.K X.w fa P Ex fun xs ρ => match xs with
    | x :: xs => (f x ρ).bind fun _ ρ => fs xs ρ
    | _ => .bad) := by
  refine PGs.weak (pgs_cons h1 h2 hs) fun vs σ H Q ⟨ρ, xs, sr, r, q⟩ => ?_
  cases xs with
  | nil => exact q.elim
  | cons x xs =>
    cases r with
    | cons r1 r2 =>
      dsimp only at q
      refine ⟨_, _, rfl, ρ, x, sr, r1, ?_⟩
      cases e1 : f x ρ with
      | bad => rw [e1] at q; exact q.elim
      | ex c ρ' => rw [e1] at q; exact q
      | ok _ ρ1 =>
        rw [e1] at q
        change (match fs xs ρ1 with
          | .ok _ ρ' => ∀ σ' H', StpV X.K X.w fa P σ ρ H σ' ρ' H' → Q σ' H'
          | .ex c ρ' => ∀ σ' H', StpV X.K X.w fa P σ ρ H σ' ρ' H' → Ex c H'
          | .bad => False) at q
        dsimp only
        intro σ1 H1 s1
        refine ⟨ρ1, xs, s1.st.sr, RDs.mono s1.st.mo _ _ r2, ?_⟩
        cases e2 : fs xs ρ1 with
        | bad => rw [e2] at q; exact q.elim
        | ex c ρ' => rw [e2] at q; exact fun σ' H' s' => q σ' H' (s1.trans s')
        | ok _ ρ2 => rw [e2] at q; exact fun σ' H' s' => q σ' H' (s1.trans s')
end
end FF
end
section
set_option Elab.async false
set_option linter.all false
set_option maxRecDepth 100000
set_option maxHeartbeats 1000000
/-! FR: statements. -/
namespace FF
open PySem PySem.Spec PyProof.Rows L2 PySem.W
section
variable {X : Cx} {fa : Nat → Addr} {P : Nat → Prop} {Ex : Nat → Hp → Prop} {pos : Pos}
/-- (a, b, ..) = data -/
theorem gd_tup {es : List Expr} {k : Nat} {n : Nat} {fs : List D → Sl → O Unit} (hc : X.calm = true) (h : PGs X es (rdGs X.K X.w fa P Ex fs)) (hn : (assignEach es X.env).length = n) (hst : (assignEach es X.env).findIdx? (·.1) = none) :
    PG X (.Tuple es k pos) (rdG X.K X.w fa P Ex fun x ρ => match W.d x with
    | .d (.tuple xs) => if xs.length = n then fs xs ρ else .bad
    | .d (.list xs) => if xs.length = n then fs xs ρ else .bad
    | _ => .bad) := by
  refine PG.weak (PG.or (pg_tup hc h hn hst) (pg_lst hc h hn hst)) fun v σ H Q ⟨ρ, x, sr, r, q⟩ => ?_
  dsimp only at q
  cases x with
  | tuple xs =>
    dsimp only at q
    cases r with
    | tup h1 h2 =>
      by_cases hl : xs.length = n
      · rw [if_pos hl] at q
        exact .inl ⟨_, _, rfl, h1, by rw [h2.length]; exact hl, ρ, xs, sr, h2, q⟩
      · rw [if_neg hl] at q; exact q.elim
  | list xs =>
    dsimp only at q
    cases r with
    | lst h1 h2 =>
      by_cases hl : xs.length = n
      · rw [if_pos hl] at q
        exact .inr ⟨_, _, rfl, h1.rd.sq, by rw [h2.length]; exact hl, ρ, xs, sr, h2, q⟩
      · rw [if_neg hl] at q; exact q.elim
  | _ => exact q.elim

/-- a result behind statements -/
structure WRS (K : PySem.W.Frag) (wd : World) (fa : Nat → Addr) (σ : L2.St) (ρ : Sl) (H : Hp) (σ' : L2.St) (ρ' : Sl) (H' : Hp) (v : V) (w : W) : Prop where
  rw : RW K wd fa H' v w
  nun : w ≠ .un
  lk : w.hold = w.own
  fr : ∀ a, w.own = true → v = .ref a → (H a = none ∨ Ow σ ρ a) ∧ ∀ i, ¬ Ho σ' ρ' i a
theorem WR.s {K : PySem.W.Frag} {wd : World} {σ : L2.St} {ρ ρ' : Sl} {H H' : Hp} {v : V} {w : W} (r : WR (K := K) (wd := wd) (fa := fa) σ ρ H ρ' H' v w) : WRS K wd fa σ ρ H σ ρ' H' v w := ⟨r.rw, r.nun, r.lk, r.fr⟩
theorem WRS.later {K : PySem.W.Frag} {wd : World} {σ σ1 σ2 : L2.St} {ρ ρ1 ρ2 : Sl} {H H1 H2 : Hp} {v : V} {w : W} (s : Stp K wd fa σ ρ H σ1 ρ1 H1) (r : WRS K wd fa σ1 ρ1 H1 σ2 ρ2 H2 v w) : WRS K wd fa σ ρ H σ2 ρ2 H2 v w :=
  ⟨r.rw, r.nun, r.lk, fun a h1 h2 => ⟨(r.fr a h1 h2).1.elim (fun z => .inl (s.dom a z)) (fun z => (s.ow a z).elim .inr .inl), (r.fr a h1 h2).2⟩⟩
/-- what is to be shown of a statement's outcome -/
def RdS (K : PySem.W.Frag) (wd : World) (fa : Nat → Addr) (P : Nat → Prop) (Ex : Nat → Hp → Prop) (x : SO) (σ : L2.St) (ρ : Sl) (H : Hp) (D : Ends) : Prop :=
  match x with
  | .nx ρ' => ∀ σ' H', StpV K wd fa P σ ρ H σ' ρ' H' → D.nx σ' H'
  | .rt w ρ' => ∀ σ' H' v, StpV K wd fa P σ ρ H σ' ρ' H' → WRS K wd fa σ ρ H σ' ρ' H' v w → D.rt v H'
  | .ex c ρ' => ∀ σ' H', StpV K wd fa P σ ρ H σ' ρ' H' → Ex c H'
  | .bad => False
def rdS (K : PySem.W.Frag) (wd : World) (fa : Nat → Addr) (P : Nat → Prop) (Ex : Nat → Hp → Prop) (f : Sl → SO) : TS := fun D σ H => ∃ ρ, SR K wd fa σ ρ H ∧ RdS K wd fa P Ex (f ρ) σ ρ H D
section
variable {K : PySem.W.Frag} {wd : World} {σ σ1 : L2.St} {ρ ρ1 : Sl} {H H1 : Hp} {D : Ends}
theorem RdS.later {x : SO} (s : StpV K wd fa P σ ρ H σ1 ρ1 H1) (h : RdS K wd fa P Ex x σ ρ H D) : RdS K wd fa P Ex x σ1 ρ1 H1 D := by
  cases x with
  | nx ρ' => exact fun σ' H' t => h σ' H' (s.trans t)
  | rt w ρ' => exact fun σ' H' v t r => h σ' H' v (s.trans t) (r.later s.st)
  | ex c ρ' => exact fun σ' H' t => h σ' H' (s.trans t)
  | bad => exact h
/-- behind an expression -/
theorem RdS.to {α : Type} {x : O α} {f : α → Sl → SO} (h : RdS K wd fa P Ex (x.to f) σ ρ H D) : Rdg (K := K) (wd := wd) (fa := fa) Ex x σ ρ H fun a ρ1 H1 => RdS K wd fa P Ex (f a ρ1) σ ρ H D := by
  cases x with
  | ok a ρ1 => exact fun H1 s1 => h
  | ex c ρ1 => exact fun H1 s1 => h σ H1 (.of s1)
  | bad => exact h
theorem RdS.seq {x : SO} {f : Sl → SO} (h : RdS K wd fa P Ex (x.seq f) σ ρ H D) : RdS K wd fa P Ex x σ ρ H { D with nx := fun σ' H' => ∃ ρ', SR K wd fa σ' ρ' H' ∧ RdS K wd fa P Ex (f ρ') σ' ρ' H' D } := by
  cases x with
  | nx ρ1 =>
    intro σ1 H1 s1
    have h : RdS K wd fa P Ex (f ρ1) σ ρ H D := h
    exact ⟨ρ1, s1.st.sr, h.later s1⟩
  | rt w ρ1 => exact h
  | ex c ρ1 => exact h
  | bad => exact h
theorem RdS.imp {x : SO} {D' : Ends} (h : RdS K wd fa P Ex x σ ρ H D) (h1 : ∀ σ' H', D.nx σ' H' → D'.nx σ' H') (h2 : ∀ v H', D.rt v H' → D'.rt v H') : RdS K wd fa P Ex x σ ρ H D' := by
  cases x with
  | nx ρ1 => exact fun σ1 H1 s1 => h1 _ _ (h σ1 H1 s1)
  | rt w ρ1 => exact fun σ1 H1 v s1 r => h2 _ _ (h σ1 H1 v s1 r)
  | ex c ρ1 => exact h
  | bad => exact h
end
theorem ss_nil : PSs X [] (rdS X.K X.w fa P Ex .nx) := PSs.weak pss_nil fun D σ H ⟨ρ, sr, q⟩ => q σ H (.refl sr)
theorem ss_cons {st : Stmt} {rest : List Stmt} {f g : Sl → SO} (h1 : PS X st (rdS X.K X.w fa P Ex f)) (h2 : PSs X rest (rdS X.K X.w fa P Ex g)) : PSs X (st :: rest) (rdS X.K X.w fa P Ex fun ρ => (f ρ).seq g) :=
  PSs.weak (pss_cons h1 h2) fun D σ H ⟨ρ, sr, q⟩ => ⟨ρ, sr, RdS.seq q⟩
theorem s_ret {e : Expr} {f : Sl → O W} (h : PE X e (rdW X.K X.w fa Ex f)) : PS X (.Return (some e) pos) (rdS X.K X.w fa P Ex fun ρ => (f ρ).to fun w ρ => .rt w ρ) :=
  PS.weak (ps_ret h) fun D σ H ⟨ρ, sr, q⟩ => ⟨ρ, sr, (RdS.to q).imp fun w ρ1 H1 s1 q1 v rv => q1 σ H1 v (.of s1) rv.s⟩
theorem s_retN : PS X (.Return none pos) (rdS X.K X.w fa P Ex fun ρ => .rt (.d .none) ρ) :=
  PS.weak ps_retN fun D σ H ⟨ρ, sr, q⟩ => q σ H .non (.refl sr) ⟨.non, (by intro z; cases z), rfl, fun a z => nomatch z⟩
theorem s_ex {e : Expr} {f : Sl → O W} (h : PE X e (rdW X.K X.w fa Ex f)) (hs : swapsWith e none pos.line X.env = pure false) : PS X (.Expr e pos) (rdS X.K X.w fa P Ex fun ρ => (f ρ).to fun _ ρ => .nx ρ) :=
  PS.weak (ps_expr h hs) fun D σ H ⟨ρ, sr, q⟩ => ⟨ρ, sr, (RdS.to q).imp fun w ρ1 H1 s1 q1 v rv => q1 σ H1 (.of s1)⟩
theorem s_if {c : Expr} {a b : List Stmt} {fc : Sl → O Bool} {f g : Sl → SO} (hc : PT X c (rdT X.K X.w fa Ex fc)) (ha : PSs X a (rdS X.K X.w fa P Ex f)) (hb : PSs X b (rdS X.K X.w fa P Ex g)) :
    PS X (.If c a b pos) (rdS X.K X.w fa P Ex fun ρ => (fc ρ).to fun t ρ => if t then f ρ else g ρ) := by
  refine PS.weak (ps_if hc ha hb) fun D σ H ⟨ρ, sr, q⟩ => ⟨ρ, sr, (RdS.to q).imp fun t ρ1 H1 s1 q1 => ?_⟩
  cases t with
  | true => exact ⟨ρ1, s1.sr, RdS.later (.of s1) q1⟩
  | false => exact ⟨ρ1, s1.sr, RdS.later (.of s1) q1⟩
/-- name = value -/
theorem s_set {i : Nat} {x : Str} {e : Expr} {pos' : Pos} {f : Sl → O W} (hN : X.N.Nodup) (hi : X.N[i]? = some x) (hx : Loc X.env.scope x) (he : PE X e (rdW X.K X.w fa Ex f)) (hs : swapsWith e (some (.Name x pos')) pos.line X.env = pure false)
    (hf : X.fn x = true ∨ X.env.scope.names.lookup x = some .local) (np : ¬ P i) :
    PS X (.Assign [.Name x pos'] e pos) (rdS X.K X.w fa P Ex fun ρ => (f ρ).to fun w ρ => (if i < ρ.length then .ok () (ρ.set i w) else .bad : O Unit).to fun _ ρ => .nx ρ) := by
  refine PS.weak (ps_set hN hi hx he hs hf) fun D σ H ⟨ρ, sr, q⟩ => ⟨ρ, sr, (RdS.to q).imp fun w ρ1 H1 s1 q1 v rv => ?_⟩
  by_cases hl : i < ρ1.length
  · rw [if_pos hl] at q1
    exact q1 _ _ ((StpV.of s1).put hl np rv.rw rv.nun rv.lk rv.fr)
  · rw [if_neg hl] at q1; exact q1.elim
/-- a target = data -/
theorem s_asg {t e : Expr} {f : Sl → O W} {g : D → Sl → O Unit} (he : PE X e (rdW X.K X.w fa Ex f)) (hg : PG X t (rdG X.K X.w fa P Ex g)) (hs : swapsWithSole [t] e pos.line X.env = pure false) (hw : swappedStores [t] e X.env = pure none)
    (h1 : (assignEach [t] X.env).map (·.2) = [assign t X.env]) : PS X (.Assign [t] e pos) (rdS X.K X.w fa P Ex fun ρ => (dat (f ρ)).to fun x ρ => (g x ρ).to fun _ ρ => .nx ρ) := by
  refine PS.weak (ps_asg (pe_dat he) hg hs hw h1) fun D σ H ⟨ρ, sr, q⟩ => ⟨ρ, sr, (RdS.to q).imp fun x ρ1 H1 s1 q1 v rv => ⟨ρ1, x, s1.sr, rv, ?_⟩⟩
  have s1 : StpV X.K X.w fa P σ ρ H σ ρ1 H1 := .of s1
  cases eg : g x ρ1 with
  | bad => rw [eg] at q1; exact q1.elim
  | ex c ρ2 => rw [eg] at q1; exact fun σ' H' s2 => q1 σ' H' (s1.trans s2)
  | ok _ ρ2 => rw [eg] at q1; exact fun σ' H' s2 => q1 σ' H' (s1.trans s2)
end
end FF
end
section
set_option Elab.async false
set_option linter.all false
set_option maxRecDepth 100000
set_option maxHeartbeats 1000000
/-! FS: a, b = x, y; o[k] = v; while. -/
namespace FF
open PySem PySem.Spec PyProof.Rows L2 PySem.W
section
variable {K : PySem.W.Frag} {wd : World} {fa : Nat → Addr} {P : Nat → Prop} {σ σ1 : L2.St} {ρ ρ1 ρ2 : Sl} {H H1 H2 : Hp}
def Apart (v : V) (w : W) (vs : List V) (ws : List W) : Prop := ∀ a, w.own = true → v = .ref a → ∀ (k : Nat) (x : W), vs[k]? = some (.ref a) → ws[k]? = some x → x.own = true → False
/-- results of several expressions -/
def WRs (K : PySem.W.Frag) (wd : World) (fa : Nat → Addr) (σ : L2.St) (ρ : Sl) (H : Hp) (σ1 : L2.St) (ρ1 : Sl) (H1 : Hp) : List V → List W → Prop
  | [], [] => True
  | v :: vs, w :: ws => WRS K wd fa σ ρ H σ1 ρ1 H1 v w ∧ Apart v w vs ws ∧ WRs K wd fa σ ρ H σ1 ρ1 H1 vs ws
  | _, _ => False
theorem WRs.later : ∀ {vs : List V} {ws : List W}, Stp K wd fa σ ρ H σ1 ρ1 H1 → WRs K wd fa σ1 ρ1 H1 σ ρ2 H2 vs ws → WRs K wd fa σ ρ H σ ρ2 H2 vs ws
  | [], [], _, _ => trivial
  | _ :: _, _ :: _, s, h => ⟨h.1.later s, h.2.1, WRs.later s h.2.2⟩
  | [], _ :: _, _, h => h.elim
  | _ :: _, [], _, h => h.elim
theorem WRs.get : ∀ {vs : List V} {ws : List W} {k : Nat} {v : V} {w : W}, WRs K wd fa σ ρ H σ1 ρ1 H1 vs ws → vs[k]? = some v → ws[k]? = some w → WRS K wd fa σ ρ H σ1 ρ1 H1 v w
  | [], [], _, _, _, _, e, _ => by simp at e
  | _ :: _, _ :: _, 0, _, _, h, e1, e2 => by simp at e1 e2; subst e1; subst e2; exact h.1
  | _ :: _, _ :: _, k + 1, v, w, h, e1, e2 => WRs.get (k := k) h.2.2 (by simpa using e1) (by simpa using e2)
  | [], _ :: _, _, _, _, h, _, _ => h.elim
  | _ :: _, [], _, _, _, h, _, _ => h.elim
/-- a value that waits while others are found -/
theorem WRS.wait {v : V} {w : W} (r : WRS K wd fa σ ρ H σ ρ1 H1 v w) (s : Stp K wd fa σ ρ1 H1 σ ρ2 H2) : WRS K wd fa σ ρ H σ ρ2 H2 v w := by
  refine ⟨r.rw.mono s.mo fun a o e hh q => ?_, r.nun, r.lk, fun a h1 h2 => ⟨(r.fr a h1 h2).1, fun i z => ?_⟩⟩
  · rw [r.lk] at hh
    obtain ⟨o', e', m⟩ := r.rw.there (by rw [r.lk]; exact hh) e
    rw [q] at e'
    cases e'
    exact s.ko a o q m fun z => by
      obtain ⟨i, z⟩ := z.ho
      exact (r.fr a hh e).2 i z
  · rcases s.ho a ⟨i, z⟩ with ⟨j, q⟩ | q
    · exact (r.fr a h1 h2).2 j q
    · obtain ⟨o', e', m⟩ := r.rw.there (by rw [r.lk]; exact h1) h2
      rw [q] at e'; cases e'
theorem WRs.cons {v : V} {w : W} {vs : List V} {ws : List W} (s1 : Stp K wd fa σ ρ H σ ρ1 H1) (r : WRS K wd fa σ ρ H σ ρ1 H1 v w) (s2 : Stp K wd fa σ ρ1 H1 σ ρ2 H2) (rs : WRs K wd fa σ ρ1 H1 σ ρ2 H2 vs ws) : WRs K wd fa σ ρ H σ ρ2 H2 (v :: vs) (w :: ws) := by
  refine ⟨r.wait s2, fun a h1 h2 k x e1 e2 h3 => ?_, rs.later s1⟩
  have q := rs.get e1 e2
  obtain ⟨o', e', m⟩ := r.rw.there (by rw [r.lk]; exact h1) h2
  rcases (q.fr a h3 rfl).1 with z | z
  · rw [z] at e'; cases e'
  · obtain ⟨i, z⟩ := z.ho
    exact (r.fr a h1 h2).2 i z
def setS : List (Nat × V) → L2.St → L2.St
  | [], σ => σ
  | (i, v) :: r, σ => setS r (σ.set i (some v))
theorem WRs.put {i : Nat} {v : V} {w : W} (r : WRS K wd fa σ ρ H σ1 ρ1 H1 v w) (hl : i < σ1.length) : ∀ {vs : List V} {ws : List W}, Apart v w vs ws → WRs K wd fa σ ρ H σ1 ρ1 H1 vs ws → WRs K wd fa σ ρ H (σ1.set i (some v)) (ρ1.set i w) H1 vs ws
  | [], [], _, _ => trivial
  | u :: vs, x :: ws, ap, h => by
    refine ⟨⟨h.1.rw, h.1.nun, h.1.lk, fun a h1 h2 => ⟨(h.1.fr a h1 h2).1, fun j z => ?_⟩⟩, h.2.1, WRs.put r hl (fun a g1 g2 k y e1 e2 e3 => ap a g1 g2 (k + 1) y (by simpa using e1) (by simpa using e2) e3) h.2.2⟩
    obtain ⟨y, ey, hh, es⟩ := z
    rcases get_set ey with ⟨rfl, rfl, _⟩ | ⟨nj, ey⟩
    · rw [List.getElem?_set_self hl] at es
      cases es
      exact ap a (by rw [← r.lk]; exact hh) rfl 0 x (by simp [h2]) (by simp) h1
    · rw [List.getElem?_set_ne (fun z => nj z.symm)] at es
      exact (h.1.fr a h1 h2).2 j ⟨y, ey, hh, es⟩
  | [], _ :: _, _, h => h.elim
  | _ :: _, [], _, h => h.elim
theorem StpV.putAll : ∀ {is : List Nat} {vs : List V} {ws : List W} {σ1 : L2.St} {ρ1 : Sl}, StpV K wd fa P σ ρ H σ1 ρ1 H1 → (∀ i ∈ is, i < ρ1.length ∧ ¬ P i) → WRs K wd fa σ ρ H σ1 ρ1 H1 vs ws → ws.length = is.length →
    StpV K wd fa P σ ρ H (setS (is.zip vs) σ1) (setAll (is.zip ws) ρ1) H1
  | [], vs, ws, σ1, ρ1, s, _, r, e => by
    cases ws with
    | nil =>
      cases vs with
      | nil => exact s
      | cons _ _ => exact r.elim
    | cons _ _ => cases e
  | i :: is, vs, ws, σ1, ρ1, s, hi, r, e => by
    cases ws with
    | nil => cases e
    | cons w ws =>
      cases vs with
      | nil => exact r.elim
      | cons v vs =>
        obtain ⟨h1, h2⟩ := hi i (.head _)
        have hl : i < σ1.length := by rw [← s.st.sr.len]; exact h1
        exact StpV.putAll (is := is) (vs := vs) (ws := ws) (s.put h1 h2 r.1.rw r.1.nun r.1.lk r.1.fr) (fun j hj => by rw [List.length_set]; exact hi j (.tail _ hj)) (r.2.2.put r.1 hl r.2.1) (by simpa using e)
end
section
variable {X : Cx} {fa : Nat → Addr} {P : Nat → Prop} {Ex : Nat → Hp → Prop}
def rdWs (K : PySem.W.Frag) (wd : World) (fa : Nat → Addr) (Ex : Nat → Hp → Prop) (f : Sl → O (List W)) : TA := fun σ H Q => ∃ ρ, SR K wd fa σ ρ H ∧ Rdg (K := K) (wd := wd) (fa := fa) Ex (f ρ) σ ρ H fun ws ρ' H' => ∀ vs, WRs K wd fa σ ρ H σ ρ' H' vs ws → Q vs H'
theorem pw_nil_ : PA X [] (rdWs X.K X.w fa Ex fun ρ => .ok [] ρ) :=
  PA.weak pa_nil fun σ H Q ⟨ρ, sr, q⟩ => q H (Stp.refl _ _ _ sr) [] trivial
theorem pw_cons_ {e : Expr} {es : List Expr} {f : Sl → O W} {fs : Sl → O (List W)} (h1 : PE X e (rdW X.K X.w fa Ex f)) (h2 : PA X es (rdWs X.K X.w fa Ex fs)) (hs : starEach (e :: es) X.env = (false, eval e X.env) :: starEach es X.env) :
    PA X (e :: es) (rdWs X.K X.w fa Ex fun ρ => (f ρ).bind fun w ρ => (fs ρ).bind fun ws ρ => .ok (w :: ws) ρ) := by
  refine PA.weak (pa_cons h1 h2 hs) fun σ H Q ⟨ρ, sr, q⟩ => ?_
  refine ⟨ρ, sr, q.bind.imp fun a ρ1 H1 s1 q1 v rv => ?_⟩
  refine ⟨ρ1, s1.sr, q1.bind.imp fun as ρ2 H2 s2 q2 vs rvs => ?_⟩
  exact q2 H2 (Stp.refl _ _ _ s2.sr) (v :: vs) (WRs.cons s1 rv.s s2 rvs)
section
variable {f : Sl → O (List W)} {i j l : Nat} {x y z : Str} {a b c : Expr} {px py pz pt pos : Pos} {kt k2 : Nat} {pt2 : Pos}
theorem s_par2 (hc : X.calm = true) (hN : X.N.Nodup) (hi : X.N[i]? = some x) (hj : X.N[j]? = some y) (hij : i ≠ j)
    (hx : X.env.scope.names.lookup x = some .local) (hy : X.env.scope.names.lookup y = some .local) (pi : ¬ P i) (pj : ¬ P j) (ha : PA X [a, b] (rdWs X.K X.w fa Ex f))
    (hw : swappedStores [.Tuple [.Name x px, .Name y py] kt pt] (.Tuple [a, b] k2 pt2) X.env = pure (some [x, y])) (hs : swapsWithSole [.Tuple [.Name x px, .Name y py] kt pt] (.Tuple [a, b] k2 pt2) pos.line X.env = pure false) :
    PS X (.Assign [.Tuple [.Name x px, .Name y py] kt pt] (.Tuple [a, b] k2 pt2) pos) (rdS X.K X.w fa P Ex fun ρ => (f ρ).to fun ws ρ => if ws.length = [i, j].length ∧ ([i, j].all fun i => decide (i < ρ.length)) = true then .nx (setAll ([i, j].zip ws) ρ) else .bad) := by
  refine PS.weak (ps_par hc hN hi hj hij hx hy ha hw hs) fun D σ H ⟨ρ, sr, q⟩ => ⟨ρ, sr, (RdS.to q).imp fun ws ρ1 H1 s1 q1 vs rvs => ?_⟩
  by_cases hl : ws.length = [i, j].length ∧ ([i, j].all fun i => decide (i < ρ1.length)) = true
  · rw [if_pos hl] at q1
    match ws, vs, rvs, hl, q1 with
    | [w, w'], [v, v'], rvs, hl, q1 =>
      have hl2 : i < ρ1.length ∧ j < ρ1.length := by simpa using hl.2
      refine ⟨v, v', rfl, q1 _ _ ((StpV.of s1).putAll (is := [i, j]) (fun m hm => ?_) rvs rfl)⟩
      rcases List.mem_cons.mp hm with rfl | hm
      · exact ⟨hl2.1, pi⟩
      · rw [List.mem_singleton.mp hm]; exact ⟨hl2.2, pj⟩
    | [_, _], [], rvs, _, _ => exact rvs.elim
    | [_, _], [_], rvs, _, _ => exact rvs.2.2.elim
    | [_, _], _ :: _ :: _ :: _, rvs, _, _ => exact rvs.2.2.2.2.elim
  · rw [if_neg hl] at q1; exact q1.elim
theorem s_par3 (hc : X.calm = true) (hN : X.N.Nodup) (hi : X.N[i]? = some x) (hj : X.N[j]? = some y) (hl : X.N[l]? = some z) (hij : i ≠ j) (hil : i ≠ l) (hjl : j ≠ l)
    (hx : X.env.scope.names.lookup x = some .local) (hy : X.env.scope.names.lookup y = some .local) (hz : X.env.scope.names.lookup z = some .local) (pi : ¬ P i) (pj : ¬ P j) (pl : ¬ P l) (ha : PA X [a, b, c] (rdWs X.K X.w fa Ex f))
    (hw : swappedStores [.Tuple [.Name x px, .Name y py, .Name z pz] kt pt] (.Tuple [a, b, c] k2 pt2) X.env = pure (some [x, y, z])) (hs : swapsWithSole [.Tuple [.Name x px, .Name y py, .Name z pz] kt pt] (.Tuple [a, b, c] k2 pt2) pos.line X.env = pure false) :
    PS X (.Assign [.Tuple [.Name x px, .Name y py, .Name z pz] kt pt] (.Tuple [a, b, c] k2 pt2) pos) (rdS X.K X.w fa P Ex fun ρ => (f ρ).to fun ws ρ => if ws.length = [i, j, l].length ∧ ([i, j, l].all fun i => decide (i < ρ.length)) = true then .nx (setAll ([i, j, l].zip ws) ρ) else .bad) := by
  refine PS.weak (ps_par3 hc hN hi hj hl hij hil hjl hx hy hz ha hw hs) fun D σ H ⟨ρ, sr, q⟩ => ⟨ρ, sr, (RdS.to q).imp fun ws ρ1 H1 s1 q1 vs rvs => ?_⟩
  by_cases hl : ws.length = [i, j, l].length ∧ ([i, j, l].all fun i => decide (i < ρ1.length)) = true
  · rw [if_pos hl] at q1
    match ws, vs, rvs, hl, q1 with
    | [w, w', w2], [v, v', v2], rvs, hl, q1 =>
      have hl2 : i < ρ1.length ∧ j < ρ1.length ∧ l < ρ1.length := by simpa using hl.2
      refine ⟨v, v', v2, rfl, q1 _ _ ((StpV.of s1).putAll (is := [i, j, l]) (fun m hm => ?_) rvs rfl)⟩
      rcases List.mem_cons.mp hm with rfl | hm
      · exact ⟨hl2.1, pi⟩
      · rcases List.mem_cons.mp hm with rfl | hm
        · exact ⟨hl2.2.1, pj⟩
        · rw [List.mem_singleton.mp hm]; exact ⟨hl2.2.2, pl⟩
    | [_, _, _], [], rvs, _, _ => exact rvs.elim
    | [_, _, _], [_], rvs, _, _ => exact rvs.2.2.elim
    | [_, _, _], [_, _], rvs, _, _ => exact rvs.2.2.2.2.elim
    | [_, _, _], _ :: _ :: _ :: _ :: _, rvs, _, _ => exact rvs.2.2.2.2.2.2.elim
  · rw [if_neg hl] at q1; exact q1.elim
end
end
end FF
end
section
set_option Elab.async false
set_option linter.all false
set_option maxRecDepth 100000
set_option maxHeartbeats 1000000
/-! FT: o[k] = v; displays of dicts; while. -/
namespace FF
open PySem PySem.Spec PyProof.Rows L2 PySem.W
theorem dx_ok {P : Program} {w : World} {H : Hp} {h : Heap} {a : Addr} {es : Array DictEntry} {ep : Nat} (r : h.DictRaw a es ep) : ObjOk P w H h a (dxO a es ep) := by
  obtain ⟨o, ho, x⟩ := r
  exact ⟨⟨o, ho, x⟩, ⟨o, ho⟩, fun h1 h2 r1 k => r1.at k⟩
theorem dPut_len (kvs : List (D × D)) (k v : D) : (dPut kvs k v).length ≤ kvs.length + 1 := by
  unfold dPut
  split
  · simp
  · simp
section
variable {X : Cx} {pins : List (Addr × Obj)} {σ : L2.St} {H : Hp} {s : Shared}
/-- the dict that the library tells, as data -/
theorem DOk.of {h : Heap} {a : Addr} {xs : List (NestedKey × Addr × Value)} {kvs : List (D × D)} {K : PySem.W.Frag} {prog : Program} {w : World} (hx : h.DictOfH (NK prog w) a xs) (x : XR K w H xs kvs) (ns : (a == sysModules) = false) (hz : kvs.length ≤ sizeLine) :
    ∃ es ep, h.DictRaw a es ep ∧ DOk K w H a es kvs := by
  obtain ⟨o, es, ep, ho, hc, hd, he, _, hn⟩ := hx
  refine ⟨es, ep, ⟨o, ho, hc, hd⟩, ?_, ns, ?_, hz, x.tu⟩
  · rw [he]; exact x.res
  · rw [x.keys]; exact nd_some.mpr hn
def rSetD (K : PySem.W.Frag) (wd : World) : V → V → V → Hp → (Hp → Prop) → Prop := fun o i v H Q => ∃ a es ep kvs k d, o = .ref a ∧ H a = some (dxO a es ep) ∧ DOk K wd H a es kvs ∧ RP K wd H i k ∧ dictOk kvs k = true ∧ RD K wd H v d ∧
  ∀ es' ep', DOk K wd H a es' (dPut kvs k d) → Q (upd H a (dxO a es' ep'))
theorem set_dict (hu : X.A.units + 64 < cLine) : PSet X (rSetD X.K X.w) := by
  intro pins s σ H o i v ov iv u Q I ro ri rv h
  obtain ⟨a, es, ep, kvs, k, d, rfl, h1, dk, rk, ok, rd, q⟩ := h
  obtain ⟨⟨kk, k1, k2⟩, k3, k4⟩ := dictOk_parts ok
  have rk := rk.rd_tup k3
  obtain ⟨b, rfl⟩ := tup_ref k3 rk
  cases ro
  cases ri
  obtain ⟨xs, hx, xr, _⟩ := dict_at I (.inl h1) dk
  refine wpAny_setItem_heap (knd := NK X.prog X.w) (by show X.A.units + 1 + 8 < cLine; omega) ⟨RD.nested I _ _ _ _ rk rfl k1, k2⟩ hx (fun h' hx' hs => ?_) (by rw [xr.length]; omega)
  have x' := xr.put k1 k3 k2 rk rv rd
  obtain ⟨es', ep', r', d'⟩ := DOk.of hx' x' dk.nosys (Nat.le_trans (dPut_len _ _ _) k4)
  obtain ⟨o', ho', _⟩ := id r'
  exact ⟨_, I.write (e := a) (o := dxO a es' ep') (t' := _) (by rw [h1]; trivial) (.inl rfl) (fun c w hc e => (hs.2 c hc).trans e) ⟨o', ho'⟩ (dx_ok r'), q _ _ d'⟩
theorem PSet.or {t t' : TSet} (h : PSet X t) (h' : PSet X t') : PSet X (fun o i v H Q => t o i v H Q ∨ t' o i v H Q) :=
  fun pins s σ H o i v ov iv u Q I ro ri rv q => q.elim (h pins s σ H o i v ov iv u Q I ro ri rv) (h' pins s σ H o i v ov iv u Q I ro ri rv)
end
section
variable {X : Cx} {fa : Nat → Addr} {P : Nat → Prop} {Ex : Nat → Hp → Prop} {pos : Pos}
/-- x[e] = data -/
theorem gd_sub (hu : X.A.units + 64 < cLine) {i : Nat} {x : Str} {p : Pos} {e : Expr} {fA : Sl → O A} (n : Nm X i x) (he : PE X e (rdA X.K X.w fa Ex fA))
    (ha : ∀ v, assign (.Subscript (.Name x p) e pos) X.env v = (do
      let ov ← holding [v] (eval (.Name x p) X.env)
      let iv ← holding [v, ov] (eval e X.env)
      standAt pos
      holding [v, ov, iv] (setItem ov iv v)
      release [v, ov, iv] [])) :
    PG X (.Subscript (.Name x p) e pos) (rdG X.K X.w fa P Ex fun x ρ => if hasObj ρ i = true then (fA ρ).bind fun b ρ => match b.at ρ with
      | some k => (match ρ[i]? with
        | some (.ol xs) => (match k with
          | .int j => if 0 ≤ j ∧ j < xs.length then .ok () (ρ.set i (.ol (xs.set j.toNat x))) else .bad
          | _ => .bad)
        | some (.od kvs) => if dictOk kvs k then .ok () (ρ.set i (.od (dPut kvs k x))) else .bad
        | _ => .bad)
      | none => .bad
      else .bad) := by
  refine PG.weak (pg_sub (pe_var (pos := p) n.at_ n.vis n.nd n.nc) he (PSet.or set_list (set_dict hu)) ha) fun v σ H Q ⟨ρ, x, sr, r, q⟩ => ?_
  dsimp only at q
  by_cases ho : hasObj ρ i = true
  case neg => rw [if_neg ho] at q; exact q.elim
  rw [if_pos ho] at q
  have key : ∀ a, σ[i]? = some (some (.ref a)) → rdA X.K X.w fa Ex fA σ H fun i H2 => (rSetL (.ref a) i v H2 fun H3 => Q σ H3) ∨ (rSetD X.K X.w (.ref a) i v H2 fun H3 => Q σ H3) := by
    intro a ea
    refine ⟨ρ, sr, ?_⟩
    cases ef : fA ρ with
    | bad => rw [ef] at q; exact q.elim
    | ex c ρ' => rw [ef] at q; exact fun H' s' => q σ H' (.of s')
    | ok b ρ1 =>
      rw [ef] at q
      intro H1 s1 u ru
      dsimp only [O.bind] at q
      cases eb : b.at ρ1 with
      | none => rw [eb] at q; exact q.elim
      | some k =>
        rw [eb] at q
        dsimp only at q
        cases ew : ρ1[i]? with
        | none => rw [ew] at q; exact q.elim
        | some w =>
          rw [ew] at q
          cases w with
          | ol xs =>
            dsimp only at q
            cases k with
            | int j =>
              dsimp only at q
              by_cases hj : 0 ≤ j ∧ j < xs.length
              · rw [if_pos hj] at q
                obtain ⟨v', e2, b', vs, rfl, h2, r2⟩ := s1.sr.at ew (by intro z; cases z)
                rw [ea] at e2
                cases e2
                have mo : Mo H1 (upd H1 a (.lst (vs.set j.toNat v))) := Mo.write h2 mu_l
                refine .inl ⟨a, vs, j, j.toNat, rfl, (ru.rp s1.sr eb).int, h2, ?_, q _ _ ((StpV.of s1).trans (.of (Stp.write s1.sr ew rfl ea h2 mu_l rfl ⟨a, _, rfl, upd_same, RDs.mono mo _ _ (RDs.set (RD.mono s1.mo _ _ r) j.toNat r2)⟩)))⟩
                unfold ixN
                rw [if_pos hj.1, if_pos (by rw [r2.length]; exact hj.2)]
              · rw [if_neg hj] at q; exact q.elim
            | _ => exact q.elim
          | od kvs =>
            dsimp only at q
            by_cases ok : dictOk kvs k = true
            · rw [if_pos ok] at q
              obtain ⟨v', e2, b', es, ep, rfl, h2, r2⟩ := s1.sr.at ew (by intro z; cases z)
              rw [ea] at e2
              cases e2
              refine .inr ⟨a, es, ep, kvs, k, x, rfl, h2, r2, ru.rp s1.sr eb, ok, RD.mono s1.mo _ _ r, fun es' ep' d' => ?_⟩
              exact q _ _ ((StpV.of s1).trans (.of (Stp.write s1.sr ew rfl ea h2 mu_d rfl ⟨a, es', ep', rfl, upd_same, d'.mono (Mo.write h2 mu_d)⟩)))
            · rw [if_neg ok] at q; exact q.elim
          | _ => exact q.elim
  unfold hasObj at ho
  cases ew : ρ[i]? with
  | none => rw [ew] at ho; cases ho
  | some w =>
    rw [ew] at ho
    cases w with
    | ol xs =>
      obtain ⟨v', e2, b', vs, rfl, h2, r2⟩ := sr.at ew (by intro z; cases z)
      exact ⟨_, e2, key _ e2⟩
    | od kvs =>
      obtain ⟨v', e2, b', es, ep, rfl, h2, r2⟩ := sr.at ew (by intro z; cases z)
      exact ⟨_, e2, key _ e2⟩
    | _ => cases ho
end
end FF
namespace FF
open PySem PySem.Spec PyProof.Rows L2 PySem.W
section
variable {X : Cx} {fa : Nat → Addr} {P : Nat → Prop} {Ex : Nat → Hp → Prop} {pos : Pos}
theorem DOk.empty {K : PySem.W.Frag} {w : World} {H : Hp} {a : Addr} (ns : (a == sysModules) = false) : DOk K w H a #[] [] := ⟨.nil, ns, by simp, by simp, rfl⟩
theorem raw_new (h : Heap) : (h.push { cls := .type "dict", data := .dict #[] }).DictRaw h.objs.size #[] 0 := ⟨_, Heap.get?_push_size _ rfl, ⟨rfl, rfl, rfl⟩, rfl⟩
theorem dt_sys {pins : List (Addr × Obj)} {σ : L2.St} {H : Hp} {s : Shared} (I : Inv X pins σ H s) : (s.heap.objs.size == sysModules) = false := beq_eq_false_iff_ne.mpr (Ne.symm (Nat.ne_of_lt I.big))
theorem rd_dsp0 : PE X (.Dict [] [] pos) (rdW X.K X.w fa Ex fun ρ => .ok (.od []) ρ) := by
  refine ⟨fun pins s σ H Q I h => ?_⟩
  obtain ⟨ρ, sr, q⟩ := h
  have hn : H s.heap.objs.size = none := I.hok.fresh (Nat.le_refl _)
  have n : NewR X.K X.w H (upd H s.heap.objs.size (dxO s.heap.objs.size #[] 0)) (.ref s.heap.objs.size) (.od []) := .dct hn (.empty (dt_sys I))
  exact wpAny_Dict_empty ⟨.ref s.heap.objs.size, _, I.laid (a := s.heap.objs.size) (o := dxO s.heap.objs.size #[] 0) (t' := s.toks) (fun _ _ q => Heap.get?_push_of_some _ q) (Nat.le_refl _) (dx_ok (raw_new s.heap)), rfl, q _ (n.stp sr) _ (n.wr sr)⟩
/-- {k: v} -/
theorem rd_dsp1 (hu : X.A.units + 64 < cLine) {k v : Expr} {f g : Sl → O D} (hk : PE X k (rdD X.K X.w fa Ex f)) (hv : PE X v (rdD X.K X.w fa Ex g)) :
    PE X (.Dict [some k] [v] pos) (rdW X.K X.w fa Ex fun ρ => (f ρ).bind fun x ρ => (g ρ).bind fun y ρ => if dictOk [] x then .ok (.od (dPut [] x y)) ρ else .bad) := by
  refine ⟨fun pins s σ H Q I h => ?_⟩
  obtain ⟨ρ, sr, q⟩ := h
  have hn : H s.heap.objs.size = none := I.hok.fresh (Nat.le_refl _)
  generalize hp : s.heap.objs.size = p at hn
  have I0 : Inv X pins σ (upd H p (dxO p #[] 0)) { s with heap := s.heap.push { cls := .type "dict", data := .dict #[] } } := by
    subst hp
    exact I.laid (o := dxO s.heap.objs.size #[] 0) (t' := s.toks) (fun _ _ q => Heap.get?_push_of_some _ q) (Nat.le_refl _) (dx_ok (raw_new s.heap))
  have ns : (p == sysModules) = false := by subst hp; exact dt_sys I
  have s0 : Stp X.K X.w fa σ ρ H σ ρ (upd H p (dxO p #[] 0)) := Stp.new sr hn
  have no : ∀ i, ¬ Ho σ ρ i p := sr.noHo hn
  have stay : ∀ {ρ1 : Sl} {H1 : Hp}, Stp X.K X.w fa σ ρ (upd H p (dxO p #[] 0)) σ ρ1 H1 → H1 p = some (dxO p #[] 0) ∧ ∀ i, ¬ Ho σ ρ1 i p := fun {ρ1 H1} st =>
    ⟨st.ko p _ upd_same trivial (fun z => by obtain ⟨i, z⟩ := z.ho; exact no i z), fun i z => by
      rcases st.ho p ⟨i, z⟩ with ⟨j, z⟩ | z
      · exact no j z
      · rw [upd_same] at z; cases z⟩
  have shape : (evalEachOpt [some k] X.env).zip ((evalEach [v] X.env).map fun v => do let x ← v; standAt pos; pure x) = (pairTrees [some k] [v] X.env pos).map fun p => (some p.1, p.2) := rfl
  have one : pairTrees [some k] [v] X.env pos ≠ [] := fun z => by cases z
  rw [arm_eval_Dict, shape, dictDisplay_pairs _ one (show 1 < 17 by decide)]
  refine wpAny_bind (wpAny_standAt (wpAny_bind (wpAny_subDictH (knd := NK X.prog X.w) (Q := fun d s' => wpAny (model X.prog X.w) X.A (pure (Value.ref d)) (EP X pins σ Q) X.xe s') (by show X.A.units + 8 < cLine; omega) (show 1 ≤ 15 by decide) ?_)))
  rw [hp]
  dsimp only at q
  cases ef : f ρ with
  | bad => rw [ef] at q; exact q.elim
  | ex c ρ1 =>
    rw [ef] at q
    exact pairTrees_cons_walk (thn (hk.run pins _ σ _ (fun _ _ => False) I0 ⟨ρ, s0.sr, by rw [ef]; exact fun H' s' => q H' (s0.trans s')⟩) fun _ _ ⟨_, _, _, _, z⟩ => z.elim)
  | ok x ρ1 =>
  cases eg : g ρ1 with
  | bad => rw [ef] at q; dsimp only [O.bind] at q; rw [eg] at q; exact q.elim
  | ex c ρ2 =>
    rw [ef] at q; dsimp only [O.bind] at q; rw [eg] at q
    refine pairTrees_cons_walk (thn (hk.run pins _ σ _ (fun u H1 => Stp X.K X.w fa σ ρ (upd H p (dxO p #[] 0)) σ ρ1 H1) I0 ⟨ρ, s0.sr, by rw [ef]; exact fun H' s' _ _ => s'⟩) fun kv s2 ⟨u, H1, I1, r1, s1⟩ => ?_)
    exact thn (hv.run pins _ σ H1 (fun _ _ => False) I1 ⟨ρ1, s1.sr, by rw [eg]; exact fun H' s' => q H' ((s0.trans s1).trans s')⟩) fun _ _ ⟨_, _, _, _, z⟩ => z.elim
  | ok y ρ2 =>
  rw [ef] at q; dsimp only [O.bind] at q; rw [eg] at q; dsimp only at q
  by_cases ok : dictOk [] x = true
  case neg => rw [if_neg ok] at q; exact q.elim
  rw [if_pos ok] at q
  refine pairTrees_cons_walk (thn (hk.run pins _ σ _ (fun u H1 => Stp X.K X.w fa σ ρ (upd H p (dxO p #[] 0)) σ ρ1 H1 ∧ RD X.K X.w H1 u x) I0 ⟨ρ, s0.sr, by rw [ef]; exact fun H' s' _ r => ⟨s', r⟩⟩) fun kv s2 ⟨u, H1, I1, r1, s1, ru⟩ => ?_)
  refine thn (hv.run pins _ σ H1 (fun z H2 => Stp X.K X.w fa σ ρ1 H1 σ ρ2 H2 ∧ RD X.K X.w H2 z y) I1 ⟨ρ1, s1.sr, by rw [eg]; exact fun H' s' _ r => ⟨s', r⟩⟩) fun vv s3 ⟨z, H2, I2, r2, s4, rz⟩ => ?_
  obtain ⟨⟨kk, k1, k2⟩, k3, k4⟩ := dictOk_parts ok
  have ru2 := RD.mono s4.mo _ _ ru
  obtain ⟨b, rfl⟩ := tup_ref k3 ru2
  cases r1
  have s12 := s1.trans s4
  obtain ⟨hp2, no2⟩ := stay s12
  refine pairTrees_nil_walk ⟨[(kk, b, vv)], ⟨rfl, rfl, ⟨RD.nested I2 _ _ _ _ ru2 rfl k1, k2⟩, trivial⟩, ?_, fun h' tk hx' hs => ?_⟩
  · obtain ⟨xs, hx, xr, _⟩ := dict_at I2 (.inl hp2) (DOk.empty (K := X.K) (w := X.w) (H := H2) ns)
    cases xr
    exact hx
  · have x' : XR X.K X.w H2 (storedH [] kk b vv) (dPut [] x y) := XR.nil.put k1 k3 k2 ru2 r2 rz
    obtain ⟨es', ep', raw, d'⟩ := DOk.of (xs := storedH [] kk b vv) hx' x' ns (by have := dPut_len [] x y; simp only [List.length_nil] at this; omega)
    obtain ⟨o', ho', _⟩ := id raw
    have mo := Mo.write (o := dxO p es' ep') hp2 mu_d
    have n : Stp X.K X.w fa σ ρ H σ ρ2 (upd H2 p (dxO p es' ep')) := by
      have st := s0.trans s12
      refine ⟨st.sr.mono mo fun i a o z e => ?_, st.mo.trans mo, fun c o e m nw => ?_, st.ow, st.ho, fun c e => ?_⟩
      · rw [upd_ne (fun w => no2 i (by rw [← w]; exact z))]; exact e
      · rw [upd_ne (fun w => by rw [w, hn] at e; cases e)]; exact st.ko c o e m nw
      · by_cases w : c = p
        · rw [w]; exact hn
        · rw [upd_ne w] at e; exact st.dom c e
    exact wpAny_pure ⟨.ref p, upd H2 p (dxO p es' ep'), I2.write (e := p) (t' := tk) (by rw [hp2]; trivial) (.inl rfl) (fun c w hc e => (hs.2 c hc).trans e) ⟨o', ho'⟩ (dx_ok raw), rfl,
      q _ n _ ⟨⟨p, es', ep', rfl, upd_same, d'.mono mo⟩, (by intro z; cases z), rfl, fun a _ e => by cases e; exact ⟨.inl hn, no2⟩⟩⟩
end
end FF
end
section
set_option Elab.async false
set_option linter.all false
set_option maxRecDepth 100000
set_option maxHeartbeats 1000000
/-! FU: walks over items; for; while. -/
namespace FF
open PySem PySem.Spec PyProof.Rows L2 PySem.W
section
variable {K : PySem.W.Frag} {wd : World} {fa : Nat → Addr}
/-- what stands through any step -/
def Firm (K : PySem.W.Frag) (wd : World) (fa : Nat → Addr) (G : L2.St → Sl → Hp → Prop) : Prop := ∀ σ ρ H σ' ρ' H', Stp K wd fa σ ρ H σ' ρ' H' → G σ ρ H → G σ' ρ' H'
/-- the walk J goes through the items xs -/
structure Wlk (K : PySem.W.Frag) (wd : World) (fa : Nat → Addr) (J : It) (xs : List D) (G : L2.St → Sl → Hp → Prop) : Prop where
  firm : Firm K wd fa G
  go : ∀ i σ ρ H, G σ ρ H → i < xs.length → J.go i H
  stop : ∀ i σ ρ H, G σ ρ H → xs.length ≤ i → J.stop i H
  yld : ∀ i σ ρ H v H' x, G σ ρ H → SR K wd fa σ ρ H → xs[i]? = some x → J.yld i H v H' → Stp K wd fa σ ρ H σ ρ H' ∧ RD K wd H' v x
/-- the reading of what is walked -/
def rdI (K : PySem.W.Frag) (wd : World) (fa : Nat → Addr) (Ex : Nat → Hp → Prop) (f : Sl → O (List D)) : TI := fun σ H R => ∃ ρ, SR K wd fa σ ρ H ∧ Rdg (K := K) (wd := wd) (fa := fa) Ex (f ρ) σ ρ H fun xs ρ' H' => ∀ J G, Wlk K wd fa J xs G → G σ ρ' H' → R J H'
theorem PI.weak {X : Cx} {tg e : Expr} {t t' : TI} (h : PI X tg e t) (f : ∀ σ H R, t' σ H R → t σ H R) : PI X tg e t' := ⟨fun pins s σ H R I q => h.run pins s σ H R I (f σ H R q)⟩
variable {σ σ1 : L2.St} {ρ ρ1 : Sl} {H H1 : Hp} {P : Nat → Prop} {Ex : Nat → Hp → Prop}
theorem firm_data : ∀ {x : D} {v : V}, Firm K wd fa fun _ _ H => RD K wd H v x := fun σ ρ H σ' ρ' H' s r => RD.mono s.mo _ _ r
/-- a list that stands: frozen, or held and locked -/
def StdL (K : PySem.W.Frag) (σ : L2.St) (ρ : Sl) (H : Hp) (a : Addr) (vs : List V) : Prop := FzL K H a vs ∨ (H a = some (.lst vs) ∧ ¬ Ow σ ρ a)
theorem StdL.sq {K : PySem.W.Frag} {σ : L2.St} {ρ : Sl} {H : Hp} {a : Addr} {vs : List V} (h : StdL K σ ρ H a vs) : SqL K H a vs := h.elim (fun h => h.rd.sq) fun h => .inl (.inl h.1)
theorem StdL.step {σ σ' : L2.St} {ρ ρ' : Sl} {H H' : Hp} {a : Addr} {vs : List V} (s : Stp K wd fa σ ρ H σ' ρ' H') (h : StdL K σ ρ H a vs) : StdL K σ' ρ' H' a vs := by
  rcases h with h | ⟨h, n⟩
  · exact .inl (s.mo.fzL h)
  · refine .inr ⟨s.ko a _ h trivial n, fun z => ?_⟩
    rcases s.ow a z with z | z
    · exact n z
    · rw [h] at z; cases z
theorem wlk_list {a : Addr} {xs : List D} : Wlk K wd fa (Itl K a) xs (fun σ ρ H => ∃ vs, RDs K wd H vs xs ∧ StdL K σ ρ H a vs) := by
  refine ⟨fun σ ρ H σ' ρ' H' s ⟨vs, r, h⟩ => ⟨vs, RDs.mono s.mo _ _ r, h.step s⟩, fun i σ ρ H ⟨vs, r, h⟩ hi => ?_, fun i σ ρ H ⟨vs, r, h⟩ hi => ⟨vs, h.sq, by rw [r.length]; exact hi⟩, fun i σ ρ H v H' x ⟨vs, r, h⟩ sr hx y => ?_⟩
  · have hv : i < vs.length := by rw [r.length]; exact hi
    exact ⟨vs, vs[i], h.sq, List.getElem?_eq_getElem hv⟩
  · obtain ⟨e, q⟩ := y
    subst e
    obtain ⟨u, e1, e2⟩ := r.get hx
    have := q vs h.sq
    rw [e1] at this
    cases this
    exact ⟨Stp.refl _ _ _ sr, e2⟩
theorem wlk_tup {a : Addr} {xs : List D} : Wlk K wd fa (Itt K a) xs (fun _ _ H => ∃ vs, RDs K wd H vs xs ∧ SqT K H a vs) := by
  refine ⟨fun σ ρ H σ' ρ' H' s ⟨vs, r, h⟩ => ⟨vs, RDs.mono s.mo _ _ r, s.mo.sqT h⟩, fun i σ ρ H ⟨vs, r, h⟩ hi => ?_, fun i σ ρ H ⟨vs, r, h⟩ hi => ⟨vs, h, by rw [r.length]; exact hi⟩, fun i σ ρ H v H' x ⟨vs, r, h⟩ sr hx y => ?_⟩
  · have hv : i < vs.length := by rw [r.length]; exact hi
    exact ⟨vs, vs[i], h, List.getElem?_eq_getElem hv⟩
  · obtain ⟨e, q⟩ := y
    subst e
    obtain ⟨u, e1, e2⟩ := r.get hx
    have := q vs h
    rw [e1] at this
    cases this
    exact ⟨Stp.refl _ _ _ sr, e2⟩
theorem wlk_range {a b : Int} : Wlk K wd fa (Itr a (b - a).toNat) (rangeD a b) (fun _ _ _ => True) := by
  have hl : (rangeD a b).length = (b - a).toNat := by simp [rangeD]
  refine ⟨fun σ ρ H σ' ρ' H' s h => h, fun i σ ρ H _ hi => by rw [hl] at hi; exact hi, fun i σ ρ H _ hi => by rw [hl] at hi; exact hi, fun i σ ρ H v H' x _ sr hx y => ?_⟩
  obtain ⟨e, q⟩ := y
  subst e q
  unfold rangeD at hx
  rw [List.getElem?_map] at hx
  obtain ⟨j, e1, rfl⟩ := Option.map_eq_some_iff.mp hx
  have hj := List.getElem?_eq_some_iff.mp e1
  obtain ⟨hj1, hj2⟩ := hj
  rw [List.getElem_range] at hj2
  subst hj2
  exact ⟨Stp.refl _ _ _ sr, .int _⟩
theorem wlk_str {z : Str} : Wlk K wd fa (Its z) (z.cps.toList.map fun c => .str ⟨#[c]⟩) (fun _ _ _ => True) := by
  have hl : (z.cps.toList.map fun c => (.str ⟨#[c]⟩ : D)).length = z.cps.size := by simp
  refine ⟨fun σ ρ H σ' ρ' H' s h => h, fun i σ ρ H _ hi => by rw [hl] at hi; exact hi, fun i σ ρ H _ hi => by rw [hl] at hi; exact hi, fun i σ ρ H v H' x _ sr hx y => ?_⟩
  obtain ⟨e, c, q1, q2⟩ := y
  subst e q2
  rw [List.getElem?_map, Array.getElem?_toList, q1] at hx
  cases hx
  exact ⟨Stp.refl _ _ _ sr, .str _⟩

/-! ### for -/
theorem for_core {X : Cx} {J : It} {xs : List D} {G : L2.St → Sl → Hp → Prop} (wl : Wlk X.K X.w fa J xs G) {turn : D → Sl → SO} {t : D → Sl → O Unit} {body : Sl → SO} (ht : ∀ x ρ, turn x ρ = (t x ρ).to fun _ ρ => body ρ) {D : Ends}
    (sr : SR X.K X.w fa σ ρ H) (hg : G σ ρ H) (q : RdS X.K X.w fa P Ex (forLoop turn xs ρ) σ ρ H D) :
    ∃ W : Nat → Nat → L2.St → Hp → Prop, (∃ m, W 0 m σ H) ∧ ∀ i m σ H, W i m σ H →
      (J.stop i H ∧ D.nx σ H) ∨ (J.go i H ∧ ∃ N : L2.St → Hp → Prop, (∀ σ' H', N σ' H' → ∃ m', m' < m ∧ W (i + 1) m' σ' H') ∧ ∀ x H', J.yld i H x H' → rdG X.K X.w fa P Ex t x σ H' fun σ2 H2 => rdS X.K X.w fa P Ex body { D with nx := N, ct := N, bk := D.nx } σ2 H2) := by
  refine ⟨fun i m σ H => m = xs.length - i ∧ i ≤ xs.length ∧ ∃ ρ, SR X.K X.w fa σ ρ H ∧ G σ ρ H ∧ RdS X.K X.w fa P Ex (forLoop turn (xs.drop i) ρ) σ ρ H D, ⟨xs.length, rfl, Nat.zero_le _, ρ, sr, hg, q⟩, ?_⟩
  rintro i m σ H ⟨rfl, hi, ρ, sr, hg, q⟩
  by_cases hlt : i < xs.length
  · have hx : xs[i]? = some xs[i] := List.getElem?_eq_getElem hlt
    rw [List.drop_eq_getElem_cons hlt, forLoop] at q
    refine .inr ⟨wl.go i σ ρ H hg hlt, fun σ' H' => ∃ ρ', SR X.K X.w fa σ' ρ' H' ∧ G σ' ρ' H' ∧ RdS X.K X.w fa P Ex (forLoop turn (xs.drop (i + 1)) ρ') σ' ρ' H' D, fun σ' H' h => ⟨xs.length - (i + 1), by omega, rfl, hlt, h⟩, fun v H' y => ?_⟩
    obtain ⟨s1, r1⟩ := wl.yld i σ ρ H v H' _ hg sr hx y
    refine ⟨ρ, xs[i], s1.sr, r1, ?_⟩
    rw [ht] at q
    have s1' : StpV X.K X.w fa P σ ρ H σ ρ H' := .of s1
    cases e1 : t xs[i] ρ with
    | bad => rw [e1] at q; exact q.elim
    | ex c ρ1 => rw [e1] at q; exact fun σ2 H2 s2 => q σ2 H2 (s1'.trans s2)
    | ok _ ρ1 =>
      rw [e1] at q
      intro σ2 H2 s2
      have s12 := s1'.trans s2
      have q1 := (RdS.seq q).later s12
      refine ⟨ρ1, s2.st.sr, ?_⟩
      have hg2 := wl.firm _ _ _ _ _ _ s12.st hg
      cases e2 : body ρ1 with
      | bad =>
        have : (O.ok () ρ1 : O Unit).to (fun _ ρ => body ρ) = .bad := e2
        rw [this] at q1; exact q1.elim
      | ex c ρ2 =>
        have : (O.ok () ρ1 : O Unit).to (fun _ ρ => body ρ) = .ex c ρ2 := e2
        rw [this] at q1; exact q1
      | rt w ρ2 =>
        have : (O.ok () ρ1 : O Unit).to (fun _ ρ => body ρ) = .rt w ρ2 := e2
        rw [this] at q1; exact q1
      | nx ρ2 =>
        have : (O.ok () ρ1 : O Unit).to (fun _ ρ => body ρ) = .nx ρ2 := e2
        rw [this] at q1
        intro σ3 H3 s3
        have : (O.ok () ρ1 : O Unit).to (fun _ ρ => body ρ) = .nx ρ2 := e2
        rw [this] at q
        have q2 : RdS X.K X.w fa P Ex (forLoop turn (xs.drop (i + 1)) ρ2) σ ρ H D := q
        exact ⟨ρ2, s3.st.sr, wl.firm _ _ _ _ _ _ s3.st hg2, q2.later (s12.trans s3)⟩
  · have e : i = xs.length := by omega
    subst e
    rw [List.drop_length] at q
    exact .inl ⟨wl.stop _ σ ρ H hg (Nat.le_refl _), q σ H (.refl sr)⟩
end
end FF
end
section
set_option Elab.async false
set_option linter.all false
set_option maxRecDepth 100000
set_option maxHeartbeats 1000000
/-! FV: slots are locked while they are walked. -/
namespace FF
open PySem PySem.Spec PyProof.Rows L2 PySem.W
inductive LkP : W → W → Prop
  | l (xs : List D) : LkP (.ol xs) (.ll xs)
  | d (kvs : List (D × D)) : LkP (.od kvs) (.ld kvs)
section
variable {K : PySem.W.Frag} {wd : World} {fa : Nat → Addr} {P : Nat → Prop} {σ σ' : L2.St} {ρ ρ' : Sl} {H H' : Hp} {i : Nat} {w w' : W}
theorem LkP.own (l : LkP w w') : w.own = true := by cases l <;> rfl
theorem LkP.own' (l : LkP w w') : w'.own = false := by cases l <;> rfl
theorem LkP.hold' (l : LkP w w') : w'.hold = true := by cases l <;> rfl
theorem LkP.rw (l : LkP w w') {v : V} : RW K wd fa H v w ↔ RW K wd fa H v w' := by cases l <;> exact Iff.rfl
theorem LkP.ref (l : LkP w w') {v : V} (r : RW K wd fa H v w) : ∃ a, v = .ref a := by
  cases l
  · obtain ⟨a, vs, e, _⟩ := r; exact ⟨a, e⟩
  · obtain ⟨a, es, ep, e, _⟩ := r; exact ⟨a, e⟩
theorem Ho.lockd {w0 : W} (e : ρ[i]? = some w0) (h0 : w0.hold = true) {j : Nat} {a : Addr} (h : Ho σ (ρ.set i w) j a) : Ho σ ρ j a := by
  rcases h.of_set with ⟨rfl, _, q⟩ | ⟨_, q⟩
  · exact ⟨w0, e, h0, q⟩
  · exact q
/-- a slot is locked -/
theorem Stp.lock (s : SR K wd fa σ ρ H) (e : ρ[i]? = some w) (l : LkP w w') : Stp K wd fa σ ρ H σ (ρ.set i w') H := by
  have h0 := W.hold_of_own l.own
  refine ⟨⟨by rw [List.length_set]; exact s.len, fun j x ej => ?_, fun j k a h1 h2 => s.ap j k a (h1.lockd e h0) (h2.lockd e h0), s.tab⟩, Mo.refl H, fun _ _ h _ _ => h, fun b h => .inl ?_, fun b ⟨j, h⟩ => .inl ⟨j, h.lockd e h0⟩, fun _ h => h⟩
  · rcases get_set ej with ⟨rfl, rfl, _⟩ | ⟨_, ej⟩
    · rcases s.rw j w e with q | ⟨v, q1, q2⟩
      · subst q; cases l
      · exact .inr ⟨v, q1, l.rw.mp q2⟩
    · exact s.rw j x ej
  · rcases h.of_set with ⟨q, _⟩ | q
    · rw [l.own'] at q; cases q
    · exact q
theorem lock_no (s : SR K wd fa σ ρ H) (e : ρ[i]? = some w) (l : LkP w w') {a : Addr} (ea : σ[i]? = some (some (.ref a))) : ¬ Ow σ (ρ.set i w') a := fun ⟨j, x, ex, ox, es⟩ => by
  rcases get_set ex with ⟨rfl, rfl, _⟩ | ⟨nj, ex⟩
  · rw [l.own'] at ox; cases ox
  · exact nj (s.ap j i a ⟨x, ex, W.hold_of_own ox, es⟩ ⟨w, e, W.hold_of_own l.own, ea⟩)
/-- .. and let free behind the walk -/
theorem StpV.free {x : W} (s : SR K wd fa σ ρ H) (e : ρ[i]? = some w) (l : LkP w w') (pi : P i) (st : StpV K wd fa P σ (ρ.set i w') H σ' ρ' H') (e' : ρ'[i]? = some x) (hx : x.hold = true) : StpV K wd fa P σ ρ H σ' (ρ'.set i w) H' := by
  obtain ⟨v, ev, rv⟩ := s.at e (by intro z; subst z; cases l)
  obtain ⟨a, rfl⟩ := l.ref rv
  have hl : i < ρ'.length := (List.getElem?_eq_some_iff.mp e').1
  have es' : σ'[i]? = some (some (.ref a)) := by rw [st.kp i pi]; exact ev
  have no := lock_no s e l ev
  have l0 := Stp.lock s e l
  have stay : ∀ o, H a = some o → H' a = some o := fun o q => by
    obtain ⟨o', q', m⟩ := rv.there (W.hold_of_own l.own) rfl
    rw [q] at q'; cases q'
    exact st.st.ko a o q m no
  have r' : RW K wd fa H' (.ref a) w := rv.mono st.st.mo fun b o eb hh q => by cases eb; exact stay o q
  refine ⟨⟨⟨by rw [List.length_set]; exact st.st.sr.len, fun j y ej => ?_, fun j k b h1 h2 => st.st.sr.ap j k b (h1.lockd e' hx) (h2.lockd e' hx), st.st.sr.tab⟩, st.st.mo, fun b o q m n => st.st.ko b o q m fun z => n ((l0.ow b z).elim id fun z => by rw [q] at z; cases z), fun b h => ?_, fun b ⟨j, h⟩ => ?_, st.st.dom⟩, st.kp, st.len⟩
  · rcases get_set ej with ⟨rfl, rfl, _⟩ | ⟨_, ej⟩
    · exact .inr ⟨_, es', r'⟩
    · exact st.st.sr.rw j y ej
  · rcases h.of_set with ⟨_, q⟩ | q
    · rw [es'] at q
      cases q
      exact .inl ⟨i, w, e, l.own, ev⟩
    · rcases st.st.ow b q with z | z
      · rcases l0.ow b z with z | z
        · exact .inl z
        · exact .inr z
      · exact .inr z
  · rcases st.st.ho b ⟨j, h.lockd e' hx⟩ with ⟨k, z⟩ | z
    · exact .inl ⟨k, z.lockd e (W.hold_of_own l.own)⟩
    · exact .inr z
/-- the outcomes of locking -/
theorem lockW_cases {xs : List D} {ρ1 : Sl} (h : lockW i ρ = .ok xs ρ1) :
    (∃ x, ρ[i]? = some (.d x) ∧ itemsOf x = some xs ∧ ρ1 = ρ) ∨ (ρ[i]? = some (.ol xs) ∧ ρ1 = ρ.set i (.ll xs)) ∨ (∃ kvs, ρ[i]? = some (.od kvs) ∧ xs = kvs.map (·.1) ∧ ρ1 = ρ.set i (.ld kvs)) ∨
      (ρ[i]? = some (.ll xs) ∧ ρ1 = ρ) ∨ (∃ kvs, ρ[i]? = some (.ld kvs) ∧ xs = kvs.map (·.1) ∧ ρ1 = ρ) := by
  unfold lockW at h
  split at h
  · rename_i x e
    cases e2 : itemsOf x with
    | none => rw [e2] at h; cases h
    | some ys => rw [e2] at h; cases h; exact .inl ⟨x, e, e2, rfl⟩
  · rename_i ys e; cases h; exact .inr (.inl ⟨e, rfl⟩)
  · rename_i ys e; cases h; exact .inr (.inr (.inl ⟨ys, e, rfl, rfl⟩))
  · rename_i ys e; cases h; exact .inr (.inr (.inr (.inl ⟨e, rfl⟩)))
  · rename_i ys e; cases h; exact .inr (.inr (.inr (.inr ⟨ys, e, rfl, rfl⟩)))
  · cases h
theorem lockW_noex {c : Nat} {ρ1 : Sl} : lockW i ρ ≠ .ex c ρ1 := by
  unfold lockW
  intro h
  split at h <;> try (cases h; done)
  rename_i x e
  cases e2 : itemsOf x with
  | none => rw [e2] at h; cases h
  | some ys => rw [e2] at h; cases h
theorem lockW_stp {xs : List D} {ρ1 : Sl} (s : SR K wd fa σ ρ H) (h : lockW i ρ = .ok xs ρ1) : Stp K wd fa σ ρ H σ ρ1 H := by
  rcases lockW_cases h with ⟨x, e, _, rfl⟩ | ⟨e, rfl⟩ | ⟨kvs, e, _, rfl⟩ | ⟨e, rfl⟩ | ⟨kvs, e, _, rfl⟩
  · exact Stp.refl _ _ _ s
  · exact Stp.lock s e (.l _)
  · exact Stp.lock s e (.d _)
  · exact Stp.refl _ _ _ s
  · exact Stp.refl _ _ _ s
theorem freeW_ok {xs : List D} {ρ1 ρ2 : Sl} (s : SR K wd fa σ ρ H) (h : lockW i ρ = .ok xs ρ1) (pi : P i) (st : StpV K wd fa P σ ρ1 H σ' ρ' H') (f : freeW i ρ ρ' = some ρ2) :
    StpV K wd fa P σ ρ H σ' ρ2 H' ∧ ∀ j a, Ho σ' ρ2 j a → Ho σ' ρ' j a := by
  rcases lockW_cases h with ⟨x, e, _, rfl⟩ | ⟨e, rfl⟩ | ⟨kvs, e, _, rfl⟩ | ⟨e, rfl⟩ | ⟨kvs, e, _, rfl⟩
  · unfold freeW at f; rw [e] at f; cases f; exact ⟨st, fun _ _ h => h⟩
  · unfold freeW at f
    rw [e] at f
    dsimp only at f
    split at f
    · rename_i ys e'
      cases f
      exact ⟨st.free s e (.l _) pi e' rfl, fun j a h => h.lockd e' rfl⟩
    · cases f
  · unfold freeW at f
    rw [e] at f
    dsimp only at f
    split at f
    · rename_i ys e'
      cases f
      exact ⟨st.free s e (.d _) pi e' rfl, fun j a h => h.lockd e' rfl⟩
    · cases f
  · unfold freeW at f; rw [e] at f; cases f; exact ⟨st, fun _ _ h => h⟩
  · unfold freeW at f; rw [e] at f; cases f; exact ⟨st, fun _ _ h => h⟩
theorem RdS.unlock {Ex : Nat → Hp → Prop} {D : Ends} {x : SO} {xs : List PyData} {ρ1 : Sl} (s : SR K wd fa σ ρ H) (h : lockW i ρ = .ok xs ρ1) (pi : P i) (q : RdS K wd fa P Ex (x.free (.lk i) ρ) σ ρ H D) : RdS K wd fa P Ex x σ ρ1 H D := by
  cases x with
  | bad => exact q
  | nx ρ' =>
    change RdS K wd fa P Ex (match freeW i ρ ρ' with
      | some ρ => .nx ρ
      | none => .bad) σ ρ H D at q
    cases ef : freeW i ρ ρ' with
    | none => rw [ef] at q; exact q.elim
    | some ρ2 => rw [ef] at q; exact fun σ' H' st => q σ' H' (freeW_ok s h pi st ef).1
  | rt w ρ' =>
    change RdS K wd fa P Ex (match freeW i ρ ρ' with
      | some ρ => .rt w ρ
      | none => .bad) σ ρ H D at q
    cases ef : freeW i ρ ρ' with
    | none => rw [ef] at q; exact q.elim
    | some ρ2 =>
      rw [ef] at q
      refine fun σ' H' v st r => q σ' H' v (freeW_ok s h pi st ef).1 ?_
      have r2 := r.later (lockW_stp s h)
      exact ⟨r2.rw, r2.nun, r2.lk, fun a h1 h2 => ⟨(r2.fr a h1 h2).1, fun j z => (r2.fr a h1 h2).2 j ((freeW_ok s h pi st ef).2 j a z)⟩⟩
  | ex c ρ' =>
    change RdS K wd fa P Ex (match freeW i ρ ρ' with
      | some ρ => .ex c ρ
      | none => .bad) σ ρ H D at q
    cases ef : freeW i ρ ρ' with
    | none => rw [ef] at q; exact q.elim
    | some ρ2 => rw [ef] at q; exact fun σ' H' st => q σ' H' (freeW_ok s h pi st ef).1
end
end FF
end
section
set_option Elab.async false
set_option linter.all false
set_option maxRecDepth 100000
set_option maxHeartbeats 1000000
/-! FW: what is walked. -/
namespace FF
open PySem PySem.Spec PyProof.Rows L2 PySem.W
/-- the keys of a dict, by its entries -/
def Itx (d : Addr) (es : Array DictEntry) (ep : Nat) : It :=
  ⟨fun i H => Rd H d (dxO d es ep) ∧ i < es.size, fun i H x H' => H' = H ∧ ∃ en, es[i]? = some en ∧ RelV x en.key, fun i H => Rd H d (dxO d es ep) ∧ es.size ≤ i⟩
theorem turn_x {Pr : Program} {wd : World} {K : PySem.W.Frag} {tg : Expr} {d : Addr} {es : Array DictEntry} {ep : Nat} (it : Addr) (rel : ∀ en ∈ es.toList, ∃ x, RelV x en.key) :
    Turn Pr wd K tg (Itx d es ep) [it] it (fun i h => h.IsKeyIter it d i es.size ep) := by
  refine ⟨by simp, fun i h st b hb => ?_, fun i h h' st k => st.at fun oi e => k it (by simp) oi e, ?_, ?_, ?_⟩
  · rw [List.mem_singleton.mp hb]
    obtain ⟨oi, e, _, dd⟩ := st
    exact ⟨oi, e, fun v z => by rw [dd] at z; cases z⟩
  · rintro X rfl rfl rfl hc i pins s σ H E I hf st ⟨hd, hi⟩
    obtain ⟨f0, f1, _, f3, f4, f5⟩ := hf it (by simp)
    obtain ⟨od, ho, _, hdat⟩ : s.heap.DictRaw d es ep := (hd.ok I.hok).1
    have hx : es[i]? = some es[i] := Array.getElem?_eq_getElem hi
    obtain ⟨x, rx⟩ := rel es[i] (Array.mem_toList_iff.mpr (Array.getElem_mem hi))
    refine next_key_item st ho hdat rfl hx fun h' st' sb => ?_
    have I1 : Inv X pins σ H { s with heap := h' } := I.turned (t' := s.toks) (fun b ob hb e => (sb.2 b hb).trans e) f0 f1 f3 f4 f5
    obtain ⟨oi, e, c, dd⟩ := id st'
    exact ⟨es[i].key, rfl, go_of (s := { s with heap := h' }) e c dd (by decide) ⟨x, H, I1, rx, ⟨rfl, es[i], hx, rx⟩, st', fun b hb => (hf b hb).1⟩⟩
  · rintro X rfl rfl rfl hc i pins s σ H E I hf st ⟨hd, hi⟩
    obtain ⟨f0, f1, _, f3, f4, f5⟩ := hf it (by simp)
    obtain ⟨od, ho, _, hdat⟩ : s.heap.DictRaw d es ep := (hd.ok I.hok).1
    exact next_key_end (I.ok.hd hc) st ho hdat rfl hi fun h' sb => ⟨rfl, I.turned (t' := s.toks) (fun b ob hb e => sb b ob hb e) f0 f1 f3 f4 f5⟩
  · intro A i s Q E st hq
    have ty := st.typeIs
    refine wpAny_pyIter_slot ty F.slot_dict_keyiterator_iter (wpAny_call_entry F.slot_dict_keyiterator_iter ty F.entry_dict_keyiterator_iter ?_ (F.args_dict_keyiterator_iter_1 _))
    exact wpAny_pure ⟨_, rfl, "dict_keyiterator", _, ty, F.slot_dict_keyiterator_next.lookup, hq⟩
theorem REs.keyV {K : PySem.W.Frag} {w : World} {H : Hp} : ∀ {es : List DictEntry} {kvs : List (D × D)}, REs K w H es kvs → ∀ en ∈ es, ∃ x, RelV x en.key
  | _, _, .nil, en, h => by cases h
  | _, _, .cons h1 _ _ _ _ t, en, h => by
    rcases List.mem_cons.mp h with rfl | h
    · exact ⟨_, h1⟩
    · exact t.keyV en h
theorem REs.size {K : PySem.W.Frag} {w : World} {H : Hp} : ∀ {es : List DictEntry} {kvs : List (D × D)}, REs K w H es kvs → es.length = kvs.length
  | _, _, .nil => rfl
  | _, _, .cons _ _ _ _ _ t => by rw [List.length_cons, List.length_cons, t.size]
theorem REs.at_ {K : PySem.W.Frag} {w : World} {H : Hp} : ∀ {es : List DictEntry} {kvs : List (D × D)} {i : Nat} {kv : D × D}, REs K w H es kvs → kvs[i]? = some kv → ∃ en kx vx, es[i]? = some en ∧ RelV kx en.key ∧ RD K w H kx kv.1 ∧ RelV vx en.val ∧ RD K w H vx kv.2
  | _, _, _, _, .nil, e => by simp at e
  | _, _, 0, _, .cons h1 h2 h3 h4 _ _, e => by simp at e; subst e; exact ⟨_, _, _, rfl, h1, h2, h3, h4⟩
  | _, _, i + 1, kv, .cons _ _ _ _ _ t, e => by
    obtain ⟨en, kx, vx, g1, g2⟩ := REs.at_ (i := i) (kv := kv) t (by simpa using e)
    exact ⟨en, kx, vx, by simpa using g1, g2⟩
section
variable {K : PySem.W.Frag} {wd : World} {fa : Nat → Addr}
/-- a dict that stands: frozen, or held and locked -/
def Std (σ : L2.St) (ρ : Sl) (H : Hp) (d : Addr) (u : HO) : Prop := (∃ o, H d = some (.frz o u)) ∨ (H d = some u ∧ ¬ Ow σ ρ d)
theorem Std.rd {σ : L2.St} {ρ : Sl} {H : Hp} {d : Addr} {u : HO} (h : Std σ ρ H d u) : Rd H d u := h.elim (fun ⟨o, h⟩ => .inr ⟨o, h⟩) fun h => .inl h.1
theorem Std.step {σ σ' : L2.St} {ρ ρ' : Sl} {H H' : Hp} {d : Addr} {u : HO} (m : Mut (some u)) (s : Stp K wd fa σ ρ H σ' ρ' H') (h : Std σ ρ H d u) : Std σ' ρ' H' d u := by
  rcases h with ⟨o, h⟩ | ⟨h, n⟩
  · exact .inl ⟨o, s.mo.frz _ _ _ h⟩
  · refine .inr ⟨s.ko d _ h m n, fun z => ?_⟩
    rcases s.ow d z with z | z
    · exact n z
    · rw [h] at z; cases z
theorem wlk_keys {d : Addr} {es : Array DictEntry} {ep : Nat} {kvs : List (D × D)} : Wlk K wd fa (Itx d es ep) (kvs.map (·.1)) (fun σ ρ H => DOk K wd H d es kvs ∧ Std σ ρ H d (dxO d es ep)) := by
  have sz : ∀ {H : Hp}, DOk K wd H d es kvs → es.size = kvs.length := fun h => by rw [← h.ents.size]; simp
  refine ⟨fun σ ρ H σ' ρ' H' s h => ⟨h.1.mono s.mo, h.2.step trivial s⟩, fun i σ ρ H h hi => ⟨h.2.rd, by rw [sz h.1]; simpa using hi⟩, fun i σ ρ H h hi => ⟨h.2.rd, by rw [sz h.1]; simpa using hi⟩, fun i σ ρ H v H' x h sr hx y => ?_⟩
  obtain ⟨e, en, e1, r1⟩ := y
  subst e
  rw [List.getElem?_map] at hx
  obtain ⟨kv, e2, rfl⟩ := Option.map_eq_some_iff.mp hx
  obtain ⟨en', kx, vx, g1, g2, g3, _⟩ := h.1.ents.at_ e2
  rw [Array.getElem?_toList, e1] at g1
  cases g1
  have := RelV.inj r1 g2
  subst this
  exact ⟨Stp.refl _ _ _ sr, g3⟩
end
section
variable {X : Cx} {tg e : Expr} {fa : Nat → Addr} {Ex : Nat → Hp → Prop}
theorem PI.or {t t' : TI} (h : PI X tg e t) (h' : PI X tg e t') : PI X tg e (fun σ H R => t σ H R ∨ t' σ H R) :=
  ⟨fun pins s σ H R I q => q.elim (h.run pins s σ H R I) (h'.run pins s σ H R I)⟩
def iDx (K : PySem.W.Frag) (wd : World) (te : TE) : TI := fun σ H R => te σ H fun x H1 => ∃ d es ep kvs, x = .ref d ∧ Rd H1 d (dxO d es ep) ∧ DOk K wd H1 d es kvs ∧ R (Itx d es ep) H1
theorem pi_dx {te : TE} (he : PE X e te) : PI X tg e (iDx X.K X.w te) := by
  refine ⟨fun pins s σ H R I h => thn (he.run pins s σ H _ I h) fun u s1 ⟨x, H1, I1, rx, d, es, ep, kvs, ex, hd, dk, q⟩ => ?_⟩
  subst ex
  cases rx
  obtain ⟨od, ho, hc, hdat⟩ : s1.heap.DictRaw d es ep := (hd.ok I1.hok).1
  exact iter_keys dk.nosys ho hc hdat (pi_one (tk := s1.toks) I1 _ (turn_x _ dk.ents.keyV) ⟨_, Heap.get?_push_size _ rfl, rfl, rfl⟩ q)
/-- what a walk over a value goes through -/
theorem pi_it {f : Sl → O D} (he : PE X e (rdD X.K X.w fa Ex f)) : PI X tg e (rdI X.K X.w fa Ex fun ρ => (f ρ).bind fun x ρ => match itemsOf x with
    | some xs => .ok xs ρ
    | none => .bad) := by
  refine PI.weak (PI.or (pi_list he) (PI.or (pi_tup he) (PI.or (pi_str he) (pi_dx he)))) fun σ H R ⟨ρ, sr, q⟩ => ?_
  dsimp only at q
  cases ef : f ρ with
  | bad => rw [ef] at q; exact q.elim
  | ex c ρ1 => rw [ef] at q; exact .inl ⟨ρ, sr, by rw [ef]; exact q⟩
  | ok x ρ1 =>
    rw [ef] at q
    dsimp only [O.bind] at q
    cases x with
    | list xs =>
      refine .inl ⟨ρ, sr, ?_⟩
      rw [ef]
      intro H1 s1 v r
      cases r with
      | lst h1 h2 =>
        exact ⟨_, rfl, ⟨_, h1.rd.sq⟩, q H1 s1 _ _ wlk_list ⟨_, h2, .inl h1⟩⟩
    | tuple xs =>
      refine .inr (.inl ⟨ρ, sr, ?_⟩)
      rw [ef]
      intro H1 s1 v r
      cases r with
      | tup h1 h2 => exact ⟨_, rfl, ⟨_, h1⟩, q H1 s1 _ _ wlk_tup ⟨_, h2, h1⟩⟩
    | str z =>
      refine .inr (.inr (.inl ⟨ρ, sr, ?_⟩))
      rw [ef]
      intro H1 s1 v r
      cases r
      exact ⟨z, rfl, q H1 s1 _ _ wlk_str trivial⟩
    | dict kvs =>
      refine .inr (.inr (.inr ⟨ρ, sr, ?_⟩))
      rw [ef]
      intro H1 s1 v r
      cases r with
      | dct h1 e0 h2 h3 h4 h5 h6 =>
        subst e0
        have dk : DOk X.K X.w H1 _ _ kvs := ⟨h2, h3, h4, h5, h6⟩
        exact ⟨_, _, _, kvs, rfl, .inr ⟨_, h1⟩, dk, q H1 s1 _ _ wlk_keys ⟨dk, .inl ⟨_, h1⟩⟩⟩
    | _ => exact q.elim
/-- a walk over a name's own object -/
def rdL (K : PySem.W.Frag) (wd : World) (fa : Nat → Addr) (i : Nat) : TI := fun σ H R => ∃ ρ xs ρ1, SR K wd fa σ ρ H ∧ lockW i ρ = .ok xs ρ1 ∧ ∀ J G, Wlk K wd fa J xs G → G σ ρ1 H → R J H
theorem pi_lk {i : Nat} {x : Str} {p : Pos} (n : Nm X i x) : PI X tg (.Name x p) (rdL X.K X.w fa i) := by
  have hv := pe_var (X := X) (pos := p) n.at_ n.vis n.nd n.nc
  refine PI.weak (PI.or (pi_list hv) (PI.or (pi_tup hv) (PI.or (pi_str hv) (pi_dx hv)))) fun σ H R ⟨ρ, xs, ρ1, sr, el, q2⟩ => ?_
  · skip
    rcases lockW_cases el with ⟨y, e, ei, rfl⟩ | ⟨e, rfl⟩ | ⟨kvs, e, rfl, rfl⟩ | ⟨e, rfl⟩ | ⟨kvs, e, rfl, rfl⟩
    · obtain ⟨v, ev, r⟩ := sr.at e (by intro z; cases z)
      cases y with
      | list ys =>
        cases ei
        cases r with
        | lst h1 h2 =>
          exact .inl ⟨_, ev, _, rfl, ⟨_, h1.rd.sq⟩, q2 _ _ wlk_list ⟨_, h2, .inl h1⟩⟩
      | tuple ys =>
        cases ei
        cases r with
        | tup h1 h2 => exact .inr (.inl ⟨_, ev, _, rfl, ⟨_, h1⟩, q2 _ _ wlk_tup ⟨_, h2, h1⟩⟩)
      | str z =>
        cases ei
        cases r
        exact .inr (.inr (.inl ⟨_, ev, z, rfl, q2 _ _ wlk_str trivial⟩))
      | dict kvs =>
        cases ei
        cases r with
        | dct h1 e0 h2 h3 h4 h5 h6 =>
          subst e0
          have dk : DOk X.K X.w H _ _ kvs := ⟨h2, h3, h4, h5, h6⟩
          exact .inr (.inr (.inr ⟨_, ev, _, _, _, kvs, rfl, .inr ⟨_, h1⟩, dk, q2 _ _ wlk_keys ⟨dk, .inl ⟨_, h1⟩⟩⟩))
      | _ => cases ei
    · obtain ⟨v, ev, a, vs, rfl, h1, r⟩ := sr.at e (by intro z; cases z)
      exact .inl ⟨_, ev, a, rfl, ⟨vs, .inl (.inl h1)⟩, q2 _ _ wlk_list ⟨vs, r, .inr ⟨h1, lock_no sr e (.l _) ev⟩⟩⟩
    · obtain ⟨v, ev, a, es, ep, rfl, h1, r⟩ := sr.at e (by intro z; cases z)
      exact .inr (.inr (.inr ⟨_, ev, a, es, ep, kvs, rfl, .inl h1, r, q2 _ _ wlk_keys ⟨r, .inr ⟨h1, lock_no sr e (.d _) ev⟩⟩⟩))
    · obtain ⟨v, ev, a, vs, rfl, h1, r⟩ := sr.at e (by intro z; cases z)
      refine .inl ⟨_, ev, a, rfl, ⟨vs, .inl (.inl h1)⟩, q2 _ _ wlk_list ⟨vs, r, .inr ⟨h1, ?_⟩⟩⟩
      rintro ⟨j, w, ew, ow, es⟩
      have := sr.ap j i a ⟨w, ew, W.hold_of_own ow, es⟩ ⟨_, e, rfl, ev⟩
      subst this
      rw [e] at ew; cases ew; cases ow
    · obtain ⟨v, ev, a, es, ep, rfl, h1, r⟩ := sr.at e (by intro z; cases z)
      refine .inr (.inr (.inr ⟨_, ev, a, es, ep, kvs, rfl, .inl h1, r, q2 _ _ wlk_keys ⟨r, .inr ⟨h1, ?_⟩⟩⟩))
      rintro ⟨j, w, ew, ow, es⟩
      have := sr.ap j i a ⟨w, ew, W.hold_of_own ow, es⟩ ⟨_, e, rfl, ev⟩
      subst this
      rw [e] at ew; cases ew; cases ow
/-- range -/
theorem pi_r1 {a : Expr} {p pos : Pos} {f : Sl → O D} (hg : Gl X "range") (hm : X.mg "range" = none) (ha : PE X a (rdD X.K X.w fa Ex f)) (hs : starEach [a] X.env = [(false, eval a X.env)]) :
    PI X tg (.Call (.Name "range" p) [a] [] pos) (rdI X.K X.w fa Ex fun ρ => (f ρ).bind fun x ρ => match x with
    | .int n => if rangeOk 0 n then .ok (rangeD 0 n) ρ else .bad
    | _ => .bad) := by
  refine PI.weak (pi_range1 hg hm (pa_cons ha pa_nil hs) hs) fun σ H R ⟨ρ, sr, q⟩ => ⟨ρ, sr, Rdg.imp (Rdg.bind q) fun x ρ1 H1 s1 q1 v rv => ?_⟩
  cases x with
  | int n =>
    cases rv
    dsimp only at q1
    by_cases h : rangeOk 0 n = true
    · rw [if_pos h] at q1
      unfold rangeOk at h
      simp only [Bool.and_eq_true, decide_eq_true_eq] at h
      have w := q1 H1 (Stp.refl _ _ _ s1.sr) _ _ (wlk_range (a := 0) (b := n)) trivial
      rw [show n - 0 = n by omega] at w
      exact ⟨n, rfl, h.1.2, h.2, w⟩
    · rw [if_neg h] at q1; exact q1.elim
  | _ => exact q1.elim
theorem pi_r2 {a b : Expr} {p pos : Pos} {f g : Sl → O D} (hg : Gl X "range") (hm : X.mg "range" = none) (ha : PE X a (rdD X.K X.w fa Ex f)) (hb : PE X b (rdD X.K X.w fa Ex g)) (hs : starEach [a, b] X.env = [(false, eval a X.env), (false, eval b X.env)]) (hs1 : starEach [a, b] X.env = (false, eval a X.env) :: starEach [b] X.env) (hs2 : starEach [b] X.env = (false, eval b X.env) :: starEach [] X.env) :
    PI X tg (.Call (.Name "range" p) [a, b] [] pos) (rdI X.K X.w fa Ex fun ρ => (f ρ).bind fun x ρ => (g ρ).bind fun y ρ => match x, y with
    | .int m, .int n => if rangeOk m n then .ok (rangeD m n) ρ else .bad
    | _, _ => .bad) := by
  refine PI.weak (pi_range2 hg hm (pa_cons ha (pa_cons hb pa_nil hs2) hs1) hs hs2) fun σ H R ⟨ρ, sr, q⟩ => ⟨ρ, sr, Rdg.imp (Rdg.bind q) fun x ρ1 H1 s1 q1 v rv => ⟨ρ1, s1.sr, Rdg.imp (Rdg.bind q1) fun y ρ2 H2 s2 q2 u ru => ?_⟩⟩
  cases x with
  | int m =>
    cases y with
    | int n =>
      cases rv
      cases ru
      dsimp only at q2
      by_cases h : rangeOk m n = true
      · rw [if_pos h] at q2
        unfold rangeOk at h
        simp only [Bool.and_eq_true, decide_eq_true_eq] at h
        exact ⟨m, n, rfl, ⟨h.1.1.1, h.1.1.2, h.1.2, h.2⟩, q2 H2 (Stp.refl _ _ _ s2.sr) _ _ (wlk_range (a := m) (b := n)) trivial⟩
      · rw [if_neg h] at q2; exact q2.elim
    | _ => exact q2.elim
  | _ => exact q2.elim
end
section
variable {K : PySem.W.Frag} {wd : World} {fa : Nat → Addr}
theorem zip_len {xs ys : List D} : (List.zipWith (fun x y => (.tuple [x, y] : D)) xs ys).length = min xs.length ys.length := List.length_zipWith
theorem zip_get {xs ys : List D} {i : Nat} {z : D} (h : (List.zipWith (fun x y => (.tuple [x, y] : D)) xs ys)[i]? = some z) : ∃ x y, xs[i]? = some x ∧ ys[i]? = some y ∧ z = .tuple [x, y] := by
  rw [List.getElem?_zipWith] at h
  cases e1 : xs[i]? with
  | none => rw [e1] at h; cases h
  | some x =>
    cases e2 : ys[i]? with
    | none => rw [e1, e2] at h; cases h
    | some y => rw [e1, e2] at h; cases h; exact ⟨x, y, rfl, rfl, rfl⟩
theorem wlk_zipL {a b : Addr} {xs ys : List D} : Wlk K wd fa (Itz K a b) (List.zipWith (fun x y => .tuple [x, y]) xs ys) (fun σ ρ H => (∃ vs, RDs K wd H vs xs ∧ StdL K σ ρ H a vs) ∧ ∃ us, RDs K wd H us ys ∧ StdL K σ ρ H b us) := by
  refine ⟨fun σ ρ H σ' ρ' H' s ⟨⟨vs, r, h⟩, us, r2, h2⟩ => ⟨⟨vs, RDs.mono s.mo _ _ r, h.step s⟩, us, RDs.mono s.mo _ _ r2, h2.step s⟩, fun i σ ρ H ⟨⟨vs, r, h⟩, us, r2, h2⟩ hi => ?_, fun i σ ρ H ⟨⟨vs, r, h⟩, us, r2, h2⟩ hi => ?_, fun i σ ρ H v H' x ⟨⟨vs, r, h⟩, us, r2, h2⟩ sr hx y => ?_⟩
  · rw [zip_len] at hi
    have h3 : i < vs.length := by rw [r.length]; omega
    have h4 : i < us.length := by rw [r2.length]; omega
    exact ⟨vs, us, vs[i], us[i], h.sq, h2.sq, List.getElem?_eq_getElem h3, List.getElem?_eq_getElem h4⟩
  · rw [zip_len] at hi
    refine ⟨vs, us, h.sq, h2.sq, ?_⟩
    rw [r.length, r2.length]
    omega
  · obtain ⟨T, x1, x2, rfl, nT, rfl, f1, f2⟩ := y
    obtain ⟨d1, d2, e1, e2, rfl⟩ := zip_get hx
    obtain ⟨v1, g1, k1⟩ := r.get e1
    obtain ⟨v2, g2, k2⟩ := r2.get e2
    have q1 := f1 vs h.sq
    have q2 := f2 us h2.sq
    rw [g1] at q1; cases q1
    rw [g2] at q2; cases q2
    exact ⟨Stp.new sr nT, .tup (.inl (.inl upd_same)) (.cons (RD.mono (Mo.new nT) _ _ k1) (.cons (RD.mono (Mo.new nT) _ _ k2) .nil))⟩
theorem wlk_zipT {a b : Addr} {xs ys : List D} : Wlk K wd fa (RZ.ItzT K a b) (List.zipWith (fun x y => .tuple [x, y]) xs ys) (fun _ _ H => (∃ vs, RDs K wd H vs xs ∧ SqT K H a vs) ∧ ∃ us, RDs K wd H us ys ∧ SqT K H b us) := by
  refine ⟨fun σ ρ H σ' ρ' H' s ⟨⟨vs, r, h⟩, us, r2, h2⟩ => ⟨⟨vs, RDs.mono s.mo _ _ r, s.mo.sqT h⟩, us, RDs.mono s.mo _ _ r2, s.mo.sqT h2⟩, fun i σ ρ H ⟨⟨vs, r, h⟩, us, r2, h2⟩ hi => ?_, fun i σ ρ H ⟨⟨vs, r, h⟩, us, r2, h2⟩ hi => ?_, fun i σ ρ H v H' x ⟨⟨vs, r, h⟩, us, r2, h2⟩ sr hx y => ?_⟩
  · rw [zip_len] at hi
    have h3 : i < vs.length := by rw [r.length]; omega
    have h4 : i < us.length := by rw [r2.length]; omega
    exact ⟨vs, us, vs[i], us[i], h, h2, List.getElem?_eq_getElem h3, List.getElem?_eq_getElem h4⟩
  · rw [zip_len] at hi
    refine ⟨vs, us, h, h2, ?_⟩
    rw [r.length, r2.length]
    omega
  · obtain ⟨T, x1, x2, rfl, nT, rfl, f1, f2⟩ := y
    obtain ⟨d1, d2, e1, e2, rfl⟩ := zip_get hx
    obtain ⟨v1, g1, k1⟩ := r.get e1
    obtain ⟨v2, g2, k2⟩ := r2.get e2
    have q1 := f1 vs h
    have q2 := f2 us h2
    rw [g1] at q1; cases q1
    rw [g2] at q2; cases q2
    exact ⟨Stp.new sr nT, .tup (.inl (.inl upd_same)) (.cons (RD.mono (Mo.new nT) _ _ k1) (.cons (RD.mono (Mo.new nT) _ _ k2) .nil))⟩
end
section
variable {X : Cx} {fa : Nat → Addr} {Ex : Nat → Hp → Prop}
theorem pi_zp {elts : List Expr} {kn : Nat} {tpos : Pos} {a b : Expr} {p pos : Pos} {f g : Sl → O D} (hg : Gl X "zip") (hm : X.mg "zip" = none) (ha : PE X a (rdD X.K X.w fa Ex f)) (hb : PE X b (rdD X.K X.w fa Ex g)) (hs1 : starEach [a, b] X.env = (false, eval a X.env) :: starEach [b] X.env) (hs2 : starEach [b] X.env = (false, eval b X.env) :: starEach [] X.env) :
    PI X (.Tuple elts kn tpos) (.Call (.Name "zip" p) [a, b] [] pos) (rdI X.K X.w fa Ex fun ρ => (f ρ).bind fun x ρ => (g ρ).bind fun y ρ => match x, y with
    | .list xs, .list ys => .ok (List.zipWith (fun x y => .tuple [x, y]) xs ys) ρ
    | .tuple xs, .tuple ys => .ok (List.zipWith (fun x y => .tuple [x, y]) xs ys) ρ
    | _, _ => .bad) := by
  refine PI.weak (RZ.pi_zipA hg hm (pa_cons ha (pa_cons hb pa_nil hs2) hs1) hs1 (by rw [hs2]; rfl)) fun σ H R ⟨ρ, sr, q⟩ => ⟨ρ, sr, Rdg.imp (Rdg.bind q) fun x ρ1 H1 s1 q1 v rv => ⟨ρ1, s1.sr, Rdg.imp (Rdg.bind q1) fun y ρ2 H2 s2 q2 u ru => ?_⟩⟩
  have rv := RD.mono s2.mo _ _ rv
  cases x with
  | list xs =>
    cases y with
    | list ys =>
      cases rv with
      | lst h1 r1 =>
        cases ru with
        | lst h2 r2 =>
          exact ⟨_, _, _, _, rfl, .inl ⟨h1.rd.sq, h2.rd.sq, q2 H2 (Stp.refl _ _ _ s2.sr) _ _ wlk_zipL ⟨⟨_, r1, .inl h1⟩, _, r2, .inl h2⟩⟩⟩
    | _ => exact q2.elim
  | tuple xs =>
    cases y with
    | tuple ys =>
      cases rv with
      | tup h1 r1 =>
        cases ru with
        | tup h2 r2 => exact ⟨_, _, _, _, rfl, .inr ⟨h1, h2, q2 H2 (Stp.refl _ _ _ s2.sr) _ _ wlk_zipT ⟨⟨_, r1, h1⟩, _, r2, h2⟩⟩⟩
    | _ => exact q2.elim
  | _ => exact q2.elim
end
end FF
end
section
set_option Elab.async false
set_option linter.all false
set_option maxRecDepth 100000
set_option maxHeartbeats 1000000
/-! FX: for, while, comprehensions. -/
namespace FF
open PySem PySem.Spec PyProof.Rows L2 PySem.W
section
variable {X : Cx} {fa : Nat → Addr} {P : Nat → Prop} {Ex : Nat → Hp → Prop} {tg iter : Expr} {body : List Stmt} {pos : Pos}
theorem s_for {fs : Sl → O (List D)} {t : D → Sl → O Unit} {fb : Sl → SO} (hp : PassesOwn (model X.prog X.w) X.A X.env X.xe) (hc : X.calm = true) (hi : PI X tg iter (rdI X.K X.w fa Ex fs)) (hg : PG X tg (rdG X.K X.w fa P Ex t)) (hb : PSs X body (rdS X.K X.w fa P Ex fb))
    (hs : ∀ x, foldedSetIterable iter X.env x = pure x) : PS X (.For tg iter body [] pos) (rdS X.K X.w fa P Ex fun ρ => (fs ρ).to fun xs ρ => forLoop (fun x ρ => (t x ρ).to fun _ ρ => fb ρ) xs ρ) :=
  PS.weak (ps_for hp hc hi hg hb hs) fun D σ H ⟨ρ, sr, q⟩ => ⟨ρ, sr, (RdS.to q).imp fun xs ρ1 H1 s1 q1 J G wl hG => for_core wl (fun _ _ => rfl) s1.sr hG (q1.later (.of s1))⟩
theorem s_for_lk {i : Nat} {x : Str} {p : Pos} {t : D → Sl → O Unit} {fb : Sl → SO} (n : Nm X i x) (pi : P i) (hp : PassesOwn (model X.prog X.w) X.A X.env X.xe) (hc : X.calm = true) (hg : PG X tg (rdG X.K X.w fa P Ex t)) (hb : PSs X body (rdS X.K X.w fa P Ex fb))
    (hs : ∀ y, foldedSetIterable (.Name x p) X.env y = pure y) : PS X (.For tg (.Name x p) body [] pos) (rdS X.K X.w fa P Ex fun ρ => (lockW i ρ).to fun xs ρ1 => (forLoop (fun x ρ => (t x ρ).to fun _ ρ => fb ρ) xs ρ1).free (.lk i) ρ) := by
  refine PS.weak (ps_for hp hc (pi_lk (fa := fa) n) hg hb hs) fun D σ H ⟨ρ, sr, q⟩ => ?_
  dsimp only at q
  cases el : lockW i ρ with
  | bad => rw [el] at q; exact q.elim
  | ex c ρ1 => exact absurd el lockW_noex
  | ok xs ρ1 =>
    rw [el] at q
    exact ⟨ρ, xs, ρ1, sr, el, fun J G wl hG => for_core wl (fun _ _ => rfl) (lockW_stp sr el).sr hG (RdS.unlock sr el pi q)⟩
theorem s_while {c : Expr} {fc : Sl → O Bool} {fb : Sl → SO} (n : Nat) (hp : PassesOwn (model X.prog X.w) X.A X.env X.xe) (hc : PT X c (rdT X.K X.w fa Ex fc)) (hb : PSs X body (rdS X.K X.w fa P Ex fb)) :
    PS X (.While c body [] pos) (rdS X.K X.w fa P Ex fun ρ => whlLoop fc fb n ρ) := by
  refine PS.weak (ps_while hp hc hb) fun D σ H ⟨ρ, sr, q⟩ => ?_
  refine ⟨fun m σ H => ∃ ρ, SR X.K X.w fa σ ρ H ∧ RdS X.K X.w fa P Ex (whlLoop fc fb m ρ) σ ρ H D, ⟨n, ρ, sr, q⟩, ?_⟩
  rintro m σ H ⟨ρ, sr, q⟩
  cases m with
  | zero => exact q.elim
  | succ m =>
    rw [whlLoop] at q
    refine ⟨ρ, sr, (RdS.to q).imp fun t ρ1 H1 s1 q1 => ?_⟩
    cases t with
    | false => exact q1 σ H1 (.of s1)
    | true =>
      rw [if_pos rfl] at q1 ⊢
      refine ⟨fun σ' H' => ∃ ρ', SR X.K X.w fa σ' ρ' H' ∧ RdS X.K X.w fa P Ex (whlLoop fc fb m ρ') σ' ρ' H' D, fun σ' H' h => ⟨m, Nat.lt_succ_self m, h⟩, ρ1, s1.sr, ?_⟩
      exact (RdS.seq (q1.later (.of s1))).imp (fun _ _ h => h) fun _ _ h => h
end

/-! ### comprehensions -/
section
variable {K : PySem.W.Frag} {wd : World} {fa : Nat → Addr} {σ : L2.St} {ρ : Sl} {H : Hp}
theorem wipeW_len : ∀ {vs : List Nat} {ρ : Sl}, (wipeW ρ vs).length = ρ.length
  | [], _ => rfl
  | v :: vs, ρ => by rw [wipeW, List.length_set, wipeW_len]
theorem wipeW_some : ∀ {vs : List Nat} {ρ : Sl} {i : Nat} {w : W}, (wipeW ρ vs)[i]? = some w → w = .un ∨ (ρ[i]? = some w ∧ i ∉ vs)
  | [], _, _, _, e => .inr ⟨e, by simp⟩
  | v :: vs, ρ, i, w, e => by
    rcases get_set e with ⟨_, rfl, _⟩ | ⟨n, e⟩
    · exact .inl rfl
    · rcases wipeW_some (vs := vs) e with h | ⟨h1, h2⟩
      · exact .inl h
      · exact .inr ⟨h1, fun z => (List.mem_cons.mp z).elim n h2⟩
theorem wipe_keep {σ : L2.St} : ∀ {vs : List Nat} {i : Nat}, i ∉ vs → (wipe σ vs)[i]? = σ[i]? := fun {vs i} h => wipe_out h
theorem wipe_gone {σ : L2.St} {i : Nat} : ∀ {vs : List Nat}, i ∈ vs → (wipe σ vs)[i]? = if i < σ.length then some none else none
  | v :: vs, h => by
    by_cases e : v = i
    · subst e
      show ((wipe σ vs).set v none)[v]? = _
      by_cases hl : v < σ.length
      · rw [if_pos hl, List.getElem?_set_self (by rw [wipe_length]; exact hl)]
      · rw [if_neg hl, List.getElem?_eq_none (by rw [List.length_set, wipe_length]; omega)]
    · have : i ∈ vs := (List.mem_cons.mp h).elim (fun z => absurd z.symm e) id
      show ((wipe σ vs).set v none)[i]? = _
      rw [List.getElem?_set_ne e]
      exact wipe_gone this
/-- slots that differ in vs alone are wiped alike -/
theorem wipe_eq {σ σ2 : L2.St} {vs : List Nat} (hl : σ2.length = σ.length) (h : ∀ i, i ∉ vs → σ2[i]? = σ[i]?) : wipe σ2 vs = wipe σ vs := by
  apply List.ext_getElem?
  intro i
  by_cases m : i ∈ vs
  · rw [wipe_gone m, wipe_gone m, hl]
  · rw [wipe_keep m, wipe_keep m]; exact h i m
theorem Ho.wiped {vs : List Nat} {i : Nat} {a : Addr} (h : Ho (wipe σ vs) (wipeW ρ vs) i a) : Ho σ ρ i a := by
  obtain ⟨w, e, hh, es⟩ := h
  rcases wipeW_some e with rfl | ⟨e, n⟩
  · cases hh
  · exact ⟨w, e, hh, by rw [wipe_keep n] at es; exact es⟩
theorem Ow.wiped {vs : List Nat} {a : Addr} (h : Ow (wipe σ vs) (wipeW ρ vs) a) : Ow σ ρ a := by
  obtain ⟨i, w, e, hh, es⟩ := h
  rcases wipeW_some e with rfl | ⟨e, n⟩
  · cases hh
  · exact ⟨i, w, e, hh, by rw [wipe_keep n] at es; exact es⟩
theorem Stp.wipe (s : SR K wd fa σ ρ H) (vs : List Nat) : Stp K wd fa σ ρ H (wipe σ vs) (wipeW ρ vs) H := by
  refine ⟨⟨by rw [wipeW_len, wipe_length]; exact s.len, fun i w e => ?_, fun i j a h1 h2 => s.ap i j a h1.wiped h2.wiped, s.tab⟩, Mo.refl H, fun _ _ h _ _ => h, fun b h => .inl h.wiped, fun b ⟨i, h⟩ => .inl ⟨i, h.wiped⟩, fun _ h => h⟩
  rcases wipeW_some e with rfl | ⟨e, n⟩
  · exact .inl rfl
  · rw [wipe_keep n]
    exact s.rw i w e
theorem backW_len : ∀ {vs : List Nat} {ρ ρ' : Sl}, (backW ρ ρ' vs).length = ρ'.length
  | [], _, _ => rfl
  | v :: vs, ρ, ρ' => by
    rw [backW]
    cases ρ[v]? with
    | none => exact backW_len
    | some w => simp only [List.length_set]; exact backW_len
theorem backW_some : ∀ {vs : List Nat} {ρ ρ' : Sl} {i : Nat} {w : W}, ρ'.length = ρ.length → (backW ρ ρ' vs)[i]? = some w → (i ∈ vs ∧ ρ[i]? = some w) ∨ (i ∉ vs ∧ ρ'[i]? = some w)
  | [], _, _, _, _, _, e => .inr ⟨by simp, e⟩
  | v :: vs, ρ, ρ', i, w, hl, e => by
    rw [backW] at e
    cases ev : ρ[v]? with
    | none =>
      rw [ev] at e
      have hv : ρ.length ≤ v := by simpa using ev
      rcases backW_some hl e with ⟨h1, h2⟩ | ⟨h1, h2⟩
      · exact .inl ⟨.tail _ h1, h2⟩
      · refine .inr ⟨fun z => (List.mem_cons.mp z).elim (fun z => ?_) h1, h2⟩
        subst z
        have := (List.getElem?_eq_some_iff.mp h2).1
        omega
    | some u =>
      rw [ev] at e
      dsimp only at e
      rcases get_set e with ⟨rfl, rfl, _⟩ | ⟨n, e⟩
      · exact .inl ⟨.head _, ev⟩
      · rcases backW_some hl e with ⟨h1, h2⟩ | ⟨h1, h2⟩
        · exact .inl ⟨.tail _ h1, h2⟩
        · exact .inr ⟨fun z => (List.mem_cons.mp z).elim n h1, h2⟩
/-- behind a block: its own slots are what they were -/
theorem Stp.back {vs : List Nat} {ρ' : Sl} {H' : Hp} (s : SR K wd fa σ ρ H) (st : Stp K wd fa (L2.wipe σ vs) (wipeW ρ vs) H (L2.wipe σ vs) ρ' H') : Stp K wd fa σ ρ H σ (backW ρ ρ' vs) H' := by
  have hl : ρ'.length = ρ.length := by rw [st.sr.len, wipe_length, s.len]
  have stay : ∀ {i a w}, i ∈ vs → ρ[i]? = some w → w.hold = true → σ[i]? = some (some (.ref a)) → ∀ o, H a = some o → H' a = some o := fun {i a w} m e hh es o q => by
    obtain ⟨o', q', mu⟩ := s.there ⟨w, e, hh, es⟩
    rw [q] at q'; cases q'
    refine st.ko a o q mu fun ⟨j, x, ex, ox, ej⟩ => ?_
    rcases wipeW_some ex with rfl | ⟨ex, n⟩
    · cases ox
    · rw [wipe_keep n] at ej
      have := s.ap j i a ⟨x, ex, W.hold_of_own ox, ej⟩ ⟨w, e, hh, es⟩
      subst this
      exact n m
  have hoB : ∀ {i a}, Ho σ (backW ρ ρ' vs) i a → (i ∈ vs ∧ Ho σ ρ i a) ∨ (i ∉ vs ∧ Ho (L2.wipe σ vs) ρ' i a) := fun {i a} ⟨w, e, hh, es⟩ => by
    rcases backW_some hl e with ⟨m, e⟩ | ⟨m, e⟩
    · exact .inl ⟨m, w, e, hh, es⟩
    · exact .inr ⟨m, w, e, hh, by rw [wipe_keep m]; exact es⟩
  have hoN : ∀ {i a}, Ho (L2.wipe σ vs) ρ' i a → ∀ {j}, j ∈ vs → ¬ Ho σ ρ j a := fun {i a} h {j} m z => by
    obtain ⟨o, q, mu⟩ := s.there z
    rcases st.ho a ⟨i, h⟩ with ⟨k, y⟩ | y
    · have e := s.ap k j a y.wiped z
      subst e
      obtain ⟨w, e, hh, es⟩ := y
      rcases wipeW_some e with rfl | ⟨_, n⟩
      · cases hh
      · exact n m
    · rw [q] at y; cases y
  refine ⟨⟨by rw [backW_len, hl]; exact s.len, fun i w e => ?_, fun i j a h1 h2 => ?_, st.sr.tab⟩, st.mo, fun b o q m n => st.ko b o q m fun z => n z.wiped, fun b h => ?_, fun b ⟨i, h⟩ => ?_, st.dom⟩
  · rcases backW_some hl e with ⟨m, e⟩ | ⟨m, e⟩
    · rcases s.rw i w e with h | ⟨v, h1, h2⟩
      · exact .inl h
      · exact .inr ⟨v, h1, h2.mono st.mo fun a o ev hh q => stay m e hh (by rw [h1, ev]) o q⟩
    · have := st.sr.rw i w e
      rw [wipe_keep m] at this
      exact this
  · rcases hoB h1 with ⟨m1, g1⟩ | ⟨m1, g1⟩
    · rcases hoB h2 with ⟨m2, g2⟩ | ⟨m2, g2⟩
      · exact s.ap i j a g1 g2
      · exact absurd g1 (hoN g2 m1)
    · rcases hoB h2 with ⟨m2, g2⟩ | ⟨m2, g2⟩
      · exact absurd g2 (hoN g1 m2)
      · exact st.sr.ap i j a g1 g2
  · obtain ⟨i, w, e, ow, es⟩ := h
    rcases backW_some hl e with ⟨m, e⟩ | ⟨m, e⟩
    · exact .inl ⟨i, w, e, ow, es⟩
    · rcases st.ow b ⟨i, w, e, ow, by rw [wipe_keep m]; exact es⟩ with z | z
      · exact .inl z.wiped
      · exact .inr z
  · rcases hoB h with ⟨m, g⟩ | ⟨m, g⟩
    · exact .inl ⟨i, g⟩
    · rcases st.ho b ⟨i, g⟩ with ⟨j, z⟩ | z
      · exact .inl ⟨j, z.wiped⟩
      · exact .inr z
end

section
variable {X : Cx} {fa : Nat → Addr}
abbrev NoX : Nat → Hp → Prop := fun _ _ => False
theorem lc_run {J : It} {xs : List D} {G : L2.St → Sl → Hp → Prop} {vs : List Nat} {t : D → Sl → O Unit} {c : Sl → O Bool} {e : Sl → O D} {σ : L2.St} {ρ ρe : Sl} {H : Hp} {ys : List D} {Q : VK} (wl : Wlk X.K X.w fa J xs G) (sr : SR X.K X.w fa σ ρ H) (hg : G σ ρ H)
    (run : lcLoop vs (lcTurn t c e) xs [] (wipeW ρ vs) = .ok ys ρe)
    (q : ∀ D H' us, H D = none → Stp X.K X.w fa (wipe σ vs) (wipeW ρ vs) H (wipe σ vs) ρe H' → H' D = some (.lst us) → RDs X.K X.w H' us ys → (∀ j, ¬ Ho (wipe σ vs) ρe j D) → Q (.ref D) H') :
    ∀ D, H D = none → ∃ W : Nat → Nat → Hp → Prop, (∃ m, W 0 m (upd H D (.lst []))) ∧ ∀ i m H, W i m H →
      (J.stop i H ∧ Q (.ref D) H) ∨ (J.go i H ∧ ∃ Nx : Hp → Prop, (∀ H', Nx H' → ∃ m', m' < m ∧ W (i + 1) m' H') ∧ ∀ x H', J.yld i H x H' → rdG X.K X.w fa (fun i => i ∉ vs) NoX t x (wipe σ vs) H' fun σ2 H2 => wipe σ2 vs = wipe σ vs ∧
        rdT X.K X.w fa NoX c σ2 H2 fun b H3 => if b = true then rdD X.K X.w fa NoX e σ2 H3 fun y H4 => ∃ acc, H4 D = some (.lst acc) ∧ acc.length < sizeLine ∧ Nx (upd H4 D (.lst (acc ++ [y]))) else Nx H3) := by
  intro D hD
  have sw := Stp.wipe sr vs
  have hgw := wl.firm _ _ _ _ _ _ sw hg
  let Z : Nat → Hp → Prop := fun i H' => ∃ acc accD ρc, H' D = some (.lst acc) ∧ RDs X.K X.w H' acc accD ∧ Stp X.K X.w fa (wipe σ vs) (wipeW ρ vs) H (wipe σ vs) ρc H' ∧ (∀ j, ¬ Ho (wipe σ vs) ρc j D) ∧ lcLoop vs (lcTurn t c e) (xs.drop i) accD ρc = .ok ys ρe
  refine ⟨fun i m H' => m = xs.length - i ∧ i ≤ xs.length ∧ Z i H', ⟨xs.length, rfl, Nat.zero_le _, [], [], wipeW ρ vs, upd_same, .nil, Stp.new sw.sr hD, sw.sr.noHo hD, run⟩, ?_⟩
  rintro i m H1 ⟨rfl, hi, acc, accD, ρc, h1, h2, h3, h4, h5⟩
  have hg1 := wl.firm _ _ _ _ _ _ h3 hgw
  by_cases hlt : i < xs.length
  · have hx : xs[i]? = some xs[i] := List.getElem?_eq_getElem hlt
    rw [List.drop_eq_getElem_cons hlt, lcLoop] at h5
    refine .inr ⟨wl.go i _ _ H1 hg1 hlt, Z (i + 1), fun H' h => ⟨xs.length - (i + 1), by omega, rfl, hlt, h⟩, fun v H' y => ?_⟩
    obtain ⟨s1, r1⟩ := wl.yld i _ _ H1 v H' _ hg1 h3.sr hx y
    refine ⟨ρc, xs[i], s1.sr, r1, ?_⟩
    -- D stands through the turn
    have stay : ∀ {σ2 : L2.St} {ρ2 : Sl} {H2 : Hp}, Stp X.K X.w fa (wipe σ vs) ρc H1 σ2 ρ2 H2 → H2 D = some (.lst acc) ∧ ∀ j, ¬ Ho σ2 ρ2 j D := fun {σ2 ρ2 H2} st =>
      ⟨st.ko D _ h1 trivial (fun z => by obtain ⟨j, z⟩ := z.ho; exact h4 j z), fun j z => by
        rcases st.ho D ⟨j, z⟩ with ⟨k, z⟩ | z
        · exact h4 k z
        · rw [h1] at z; cases z⟩
    have turn : ∀ {σ2 : L2.St} {ρ2 : Sl} {H2 : Hp}, Stp X.K X.w fa (wipe σ vs) ρc H1 σ2 ρ2 H2 → wipe σ2 vs = wipe σ vs → Stp X.K X.w fa (wipe σ vs) (wipeW ρ vs) H (wipe σ vs) (wipeW ρ2 vs) H2 ∧ ∀ j, ¬ Ho (wipe σ vs) (wipeW ρ2 vs) j D := fun {σ2 ρ2 H2} st e => by
      have w2 := Stp.wipe st.sr vs
      have all := (h3.trans st).trans w2
      rw [e] at all
      exact ⟨all, fun j z => (stay st).2 j (by rw [← e] at z; exact z.wiped)⟩
    unfold lcTurn at h5
    cases e1 : t xs[i] ρc with
    | bad => rw [e1] at h5; cases h5
    | ex _ _ => rw [e1] at h5; cases h5
    | ok _ ρ1 =>
      rw [e1] at h5
      dsimp only at h5 ⊢
      intro σ2 H2 s2
      have we : wipe σ2 vs = wipe σ vs := by
        have := wipe_eq (σ := wipe σ vs) (σ2 := σ2) (vs := vs) s2.len s2.kp
        rw [this]
        exact wipe_eq (wipe_length _ _) fun i m => wipe_keep m
      refine ⟨we, ρ1, s2.st.sr, ?_⟩
      have s12 := s1.trans s2.st
      cases e2 : c ρ1 with
      | bad => rw [e2] at h5; cases h5
      | ex _ _ => rw [e2] at h5; cases h5
      | ok b ρ2 =>
        rw [e2] at h5
        intro H3 s3
        have s13 := s12.trans s3
        cases b with
        | false =>
          simp only [Bool.false_eq_true, ↓reduceIte]
          dsimp only at h5
          obtain ⟨g1, g2⟩ := turn s13 we
          exact ⟨acc, accD, _, (stay s13).1, RDs.mono s13.mo _ _ h2, g1, g2, h5⟩
        | true =>
          simp only [↓reduceIte]
          refine ⟨ρ2, s3.sr, ?_⟩
          dsimp only at h5
          cases e3 : e ρ2 with
          | bad => rw [e3] at h5; cases h5
          | ex _ _ => rw [e3] at h5; cases h5
          | ok y ρ3 =>
            rw [e3] at h5
            intro H4 s4 u ru
            dsimp only at h5
            have s14 := s13.trans s4
            obtain ⟨hD4, no4⟩ := stay s14
            by_cases hz : accD.length < sizeLine
            · rw [if_pos hz] at h5
              refine ⟨acc, hD4, by rw [h2.length]; exact hz, acc ++ [u], accD ++ [y], _, upd_same, ?_, ?_, ?_, h5⟩
              · have mo : Mo H4 (upd H4 D (.lst (acc ++ [u]))) := Mo.write hD4 mu_l
                exact RDs.append (RDs.mono (s14.mo.trans mo) _ _ h2) (.cons (RD.mono mo _ _ ru) .nil)
              · obtain ⟨g1, g2⟩ := turn s14 we
                have mo : Mo H4 (upd H4 D (.lst (acc ++ [u]))) := Mo.write hD4 mu_l
                refine ⟨g1.sr.mono mo fun j a o z q => ?_, g1.mo.trans mo, fun b o q m n => ?_, g1.ow, g1.ho, fun b q => ?_⟩
                · rw [upd_ne (fun w => g2 j (by rw [← w]; exact z))]; exact q
                · rw [upd_ne (fun w => by rw [w, hD] at q; cases q)]; exact g1.ko b o q m n
                · by_cases w : b = D
                  · rw [w]; exact hD
                  · rw [upd_ne w] at q; exact g1.dom b q
              · exact (turn s14 we).2
            · rw [if_neg hz] at h5; cases h5
  · have ei : i = xs.length := by omega
    subst ei
    rw [List.drop_length, lcLoop] at h5
    cases h5
    exact .inl ⟨wl.stop _ _ _ H1 hg1 (Nat.le_refl _), q D H1 acc hD h3 h1 h2 h4⟩
theorem Ho.backd {K : PySem.W.Frag} {wd : World} {σ : L2.St} {ρ ρ' : Sl} {H : Hp} {vs : List Nat} (s : SR K wd fa σ ρ H) (hl : ρ'.length = ρ.length) {i : Nat} {a : Addr} (h : Ho σ (backW ρ ρ' vs) i a) : Ho σ ρ i a ∨ Ho (wipe σ vs) ρ' i a := by
  obtain ⟨w, e, hh, es⟩ := h
  rcases backW_some hl e with ⟨m, e⟩ | ⟨m, e⟩
  · exact .inl ⟨w, e, hh, es⟩
  · exact .inr ⟨w, e, hh, by rw [wipe_keep m]; exact es⟩
variable {vs : List Nat} {t : D → Sl → O Unit} {c : Sl → O Bool} {e : Sl → O D} {Ex : Nat → Hp → Prop} {σ : L2.St} {H : Hp} {Q : VK}
theorem lc_src {fs : Sl → O (List D)} (h : rdW X.K X.w fa Ex (fun ρ₀ => (fs ρ₀).bind fun xs ρ => match lcLoop vs (lcTurn t c e) xs [] (wipeW ρ vs) with
      | .ok ys ρ' => .ok (.ol ys) (backW ρ ρ' vs)
      | _ => .bad) σ H Q) : tLc (rdI X.K X.w fa Ex fs) (rdG X.K X.w fa (fun i => i ∉ vs) NoX t) (rdT X.K X.w fa NoX c) (rdD X.K X.w fa NoX e) vs σ H Q := by
  obtain ⟨ρ, sr, q⟩ := h
  refine ⟨ρ, sr, q.bind.imp fun xs ρ1 H1 s1 q1 J G wl hg => ?_⟩
  cases run : lcLoop vs (lcTurn t c e) xs [] (wipeW ρ1 vs) with
  | bad => rw [run] at q1; exact q1.elim
  | ex _ _ => rw [run] at q1; exact q1.elim
  | ok ys ρe =>
    rw [run] at q1
    refine lc_run wl s1.sr hg run fun D H' us hD st hl rs no => ?_
    refine q1 H' (Stp.back s1.sr st) (.ref D) ⟨⟨D, us, rfl, hl, rs⟩, (by intro z; cases z), rfl, fun a _ ea => ?_⟩
    cases ea
    refine ⟨.inl (s1.dom D hD), fun i z => ?_⟩
    rcases z.backd s1.sr (by rw [st.sr.len, wipe_length, s1.sr.len]) with z | z
    · exact s1.sr.noHo hD i z
    · exact no i z
theorem lc_lk {i : Nat} (hi : i ∉ vs) (h : rdW X.K X.w fa Ex (fun ρ₀ => (lockW i ρ₀).bind fun xs ρ => match lcLoop vs (lcTurn t c e) xs [] (wipeW ρ vs) with
      | .ok ys ρ' => (match freeW i ρ₀ (backW ρ ρ' vs) with
        | some ρ'' => .ok (.ol ys) ρ''
        | none => .bad)
      | _ => .bad) σ H Q) : tLc (rdL X.K X.w fa i) (rdG X.K X.w fa (fun i => i ∉ vs) NoX t) (rdT X.K X.w fa NoX c) (rdD X.K X.w fa NoX e) vs σ H Q := by
  obtain ⟨ρ, sr, q⟩ := h
  dsimp only at q
  cases el : lockW i ρ with
  | bad => rw [el] at q; exact q.elim
  | ex c ρ1 => exact absurd el lockW_noex
  | ok xs ρ1 =>
  rw [el] at q
  dsimp only [O.bind] at q
  refine ⟨ρ, xs, ρ1, sr, el, fun J G wl hg => ?_⟩
  have s1 := lockW_stp sr el
  cases run : lcLoop vs (lcTurn t c e) xs [] (wipeW ρ1 vs) with
  | bad => rw [run] at q; exact q.elim
  | ex _ _ => rw [run] at q; exact q.elim
  | ok ys ρe =>
    rw [run] at q
    dsimp only at q
    cases ef : freeW i ρ (backW ρ1 ρe vs) with
    | none => rw [ef] at q; exact q.elim
    | some ρ2 =>
    rw [ef] at q
    refine lc_run wl s1.sr hg run fun D H' us hD st hl rs no => ?_
    obtain ⟨st2, ho2⟩ := freeW_ok (P := fun _ => True) sr el trivial (.of (Stp.back s1.sr st)) ef
    refine q H' st2.st (.ref D) ⟨⟨D, us, rfl, hl, rs⟩, (by intro z; cases z), rfl, fun a _ ea => ?_⟩
    cases ea
    refine ⟨.inl hD, fun j z => ?_⟩
    rcases (ho2 j D z).backd s1.sr (by rw [st.sr.len, wipe_length, s1.sr.len]) with z | z
    · exact s1.sr.noHo hD j z
    · exact no j z
end
end FF
end
section
set_option Elab.async false
set_option linter.all false
set_option maxRecDepth 100000
set_option maxHeartbeats 1000000
/-! FY: calls. -/
namespace FF
open PySem PySem.Spec PyProof.Rows L2 PySem.W

/-! ### arguments -/
theorem argsW_len {ρ : Sl} : ∀ {as : List A} {ws : List W}, argsW ρ as = some ws → ws.length = as.length
  | [], ws, h => by cases h; rfl
  | a :: as, ws, h => by
    rw [argsW] at h
    cases e1 : argW ρ a with
    | none => rw [e1] at h; cases h
    | some w =>
      cases e2 : argsW ρ as with
      | none => rw [e1, e2] at h; cases h
      | some us => rw [e1, e2] at h; cases h; rw [List.length_cons, List.length_cons, argsW_len e2]
theorem argsW_get {ρ : Sl} : ∀ {as : List A} {ws : List W} {k : Nat} {w : W}, argsW ρ as = some ws → ws[k]? = some w → ∃ a, as[k]? = some a ∧ argW ρ a = some w
  | [], ws, k, w, h, e => by cases h; simp at e
  | a :: as, ws, k, w, h, e => by
    rw [argsW] at h
    cases e1 : argW ρ a with
    | none => rw [e1] at h; cases h
    | some x =>
      cases e2 : argsW ρ as with
      | none => rw [e1, e2] at h; cases h
      | some us =>
        rw [e1, e2] at h
        cases h
        cases k with
        | zero => simp at e; subst e; exact ⟨a, rfl, e1⟩
        | succ k =>
          obtain ⟨b, h1, h2⟩ := argsW_get (k := k) (w := w) e2 (by simpa using e)
          exact ⟨b, by simpa using h1, h2⟩
theorem slots_mem : ∀ {as : List A} {k i : Nat}, as[k]? = some (A.s i) → i ∈ slotsOf as
  | [], k, i, h => by simp at h
  | a :: as, 0, i, h => by simp at h; subst h; simp [slotsOf]
  | a :: as, k + 1, i, h => by
    have := slots_mem (as := as) (k := k) (i := i) (by simpa using h)
    cases a <;> simp [slotsOf, this]
theorem slots_one : ∀ {as : List A} {k l i : Nat}, nodupB (slotsOf as) = true → as[k]? = some (A.s i) → as[l]? = some (A.s i) → k = l
  | [], k, l, i, _, h, _ => by simp at h
  | a :: as, 0, 0, i, _, _, _ => rfl
  | a :: as, 0, l + 1, i, n, h1, h2 => by
    simp at h1; subst h1
    have := slots_mem (as := as) (k := l) (i := i) (by simpa using h2)
    simp [slotsOf, nodupB, this] at n
  | a :: as, k + 1, 0, i, n, h1, h2 => by
    simp at h2; subst h2
    have := slots_mem (as := as) (k := k) (i := i) (by simpa using h1)
    simp [slotsOf, nodupB, this] at n
  | a :: as, k + 1, l + 1, i, n, h1, h2 => by
    have n' : nodupB (slotsOf as) = true := by
      cases a <;> simp [slotsOf, nodupB] at n ⊢ <;> first | exact n.2 | exact n
    rw [slots_one (as := as) (k := k) (l := l) (i := i) n' (by simpa using h1) (by simpa using h2)]
theorem putOuts_len : ∀ {as : List A} {ws : List W} {ρ : Sl}, (putOuts ρ as ws).length = ρ.length
  | [], _, _ => by unfold putOuts; rfl
  | a :: as, [], ρ => by cases a <;> rfl
  | .v x :: as, w :: ws, ρ => putOuts_len (as := as) (ws := ws)
  | .f x :: as, w :: ws, ρ => putOuts_len (as := as) (ws := ws)
  | .s i :: as, w :: ws, ρ => by rw [putOuts, putOuts_len (as := as) (ws := ws), List.length_set]
theorem putOuts_out : ∀ {as : List A} {ws : List W} {ρ : Sl} {i : Nat}, i ∉ slotsOf as → (putOuts ρ as ws)[i]? = ρ[i]?
  | [], _, _, _, _ => by unfold putOuts; rfl
  | a :: as, [], ρ, i, _ => by cases a <;> rfl
  | .v x :: as, w :: ws, ρ, i, h => putOuts_out (as := as) (ws := ws) h
  | .f x :: as, w :: ws, ρ, i, h => putOuts_out (as := as) (ws := ws) h
  | .s j :: as, w :: ws, ρ, i, h => by
    simp [slotsOf] at h
    rw [putOuts, putOuts_out (as := as) (ws := ws) h.2, List.getElem?_set_ne (fun z => h.1 z.symm)]
theorem putOuts_at : ∀ {as : List A} {ws : List W} {ρ : Sl} {k i : Nat}, nodupB (slotsOf as) = true → as[k]? = some (A.s i) → i < ρ.length → k < ws.length → (putOuts ρ as ws)[i]? = ws[k]?
  | [], _, _, _, _, _, h, _, _ => by simp at h
  | a :: as, [], ρ, k, i, _, _, _, h => by simp at h
  | .v x :: as, w :: ws, ρ, k, i, n, h, hi, hk => by
    cases k with
    | zero => simp at h
    | succ k =>
      show (putOuts ρ as ws)[i]? = _
      rw [putOuts_at (as := as) (ws := ws) (k := k) n (by simpa using h) hi (by simpa using hk)]; simp
  | .f x :: as, w :: ws, ρ, k, i, n, h, hi, hk => by
    cases k with
    | zero => simp at h
    | succ k =>
      show (putOuts ρ as ws)[i]? = _
      rw [putOuts_at (as := as) (ws := ws) (k := k) n (by simpa using h) hi (by simpa using hk)]; simp
  | .s j :: as, w :: ws, ρ, k, i, n, h, hi, hk => by
    have n2 : j ∉ slotsOf as ∧ nodupB (slotsOf as) = true := by simpa [slotsOf, nodupB] using n
    cases k with
    | zero =>
      simp at h; subst h
      rw [putOuts, putOuts_out n2.1, List.getElem?_set_self hi]; simp
    | succ k =>
      rw [putOuts, putOuts_at (as := as) (ws := ws) (k := k) n2.2 (by simpa using h) (by rw [List.length_set]; exact hi) (by simpa using hk)]; simp
theorem mem_slots : ∀ {as : List A} {i : Nat}, i ∈ slotsOf as → ∃ k : Nat, as[k]? = some (A.s i)
  | [], i, h => by simp [slotsOf] at h
  | .v x :: as, i, h => by obtain ⟨k, h⟩ := mem_slots (as := as) h; exact ⟨k + 1, by simpa using h⟩
  | .f x :: as, i, h => by obtain ⟨k, h⟩ := mem_slots (as := as) h; exact ⟨k + 1, by simpa using h⟩
  | .s j :: as, i, h => by
    rcases List.mem_cons.mp (show i ∈ j :: slotsOf as from h) with rfl | h
    · exact ⟨0, rfl⟩
    · obtain ⟨k, h⟩ := mem_slots (as := as) h; exact ⟨k + 1, by simpa using h⟩
section
variable {K : PySem.W.Frag} {wd : World} {fa : Nat → Addr} {σ : L2.St} {ρ : Sl} {H H' : Hp} {vs : List V} {as : List A} {ws outs : List W}
theorem ARs.at_ : ∀ {vs : List V} {as : List A} {k : Nat} {a : A}, ARs (K := K) (wd := wd) (fa := fa) σ H vs as → as[k]? = some a → ∃ v, vs[k]? = some v ∧ AR (K := K) (wd := wd) (fa := fa) σ H v a
  | [], [], k, a, _, e => by simp at e
  | v :: vs, b :: as, 0, a, h, e => by simp at e; subst e; exact ⟨v, rfl, h.1⟩
  | v :: vs, b :: as, k + 1, a, h, e => by
    obtain ⟨u, h1, h2⟩ := ARs.at_ (k := k) (a := a) h.2 (by simpa using e)
    exact ⟨u, by simpa using h1, h2⟩
  | [], _ :: _, _, _, h, _ => h.elim
  | _ :: _, [], _, _, h, _ => h.elim
theorem ARs.length : ∀ {vs : List V} {as : List A}, ARs (K := K) (wd := wd) (fa := fa) σ H vs as → vs.length = as.length
  | [], [], _ => rfl
  | _ :: _, _ :: _, h => by rw [List.length_cons, List.length_cons, ARs.length h.2]
  | [], _ :: _, h => h.elim
  | _ :: _, [], h => h.elim
theorem map_some_get {k : Nat} {v : V} (h : vs[k]? = some v) : (vs.map some)[k]? = some (some v) := by rw [List.getElem?_map, h]; rfl
theorem of_map_some {k : Nat} {v : V} (h : (vs.map some)[k]? = some (some v)) : vs[k]? = some v := by
  rw [List.getElem?_map] at h
  obtain ⟨u, e, q⟩ := Option.map_eq_some_iff.mp h
  cases q
  exact e
/-- what an argument holds, the caller's slot holds -/
theorem arg_ho (ar : ARs (K := K) (wd := wd) (fa := fa) σ H vs as) (aw : argsW ρ as = some ws) {k : Nat} {a : Addr} (h : Ho (vs.map some) ws k a) : ∃ i, as[k]? = some (A.s i) ∧ Ho σ ρ i a := by
  obtain ⟨w, e, hh, es⟩ := h
  obtain ⟨b, e1, e2⟩ := argsW_get aw e
  obtain ⟨v, e3, r⟩ := ar.at_ e1
  rw [map_some_get e3] at es
  cases es
  cases b with
  | v x => cases e2; cases hh
  | f f => cases e2; cases hh
  | s i => exact ⟨i, e1, w, e2, hh, r⟩
theorem arg_ow (ar : ARs (K := K) (wd := wd) (fa := fa) σ H vs as) (aw : argsW ρ as = some ws) {a : Addr} (h : Ow (vs.map some) ws a) : ∃ k i : Nat, as[k]? = some (A.s i) ∧ Ho σ ρ i a ∧ Ow σ ρ a := by
  obtain ⟨k, w, e, hh, es⟩ := h
  obtain ⟨b, e1, e2⟩ := argsW_get aw e
  obtain ⟨v, e3, r⟩ := ar.at_ e1
  rw [map_some_get e3] at es
  cases es
  cases b with
  | v x => cases e2; cases hh
  | f f => cases e2; cases hh
  | s i => exact ⟨k, i, e1, ⟨w, e2, W.hold_of_own hh, r⟩, i, w, e2, hh, r⟩
theorem args_sr (s : SR K wd fa σ ρ H) (ar : ARs (K := K) (wd := wd) (fa := fa) σ H vs as) (nd : nodupB (slotsOf as) = true) (aw : argsW ρ as = some ws) : SR K wd fa (vs.map some) ws H := by
  refine ⟨by rw [List.length_map, ar.length, argsW_len aw], fun k w e => ?_, fun k l a h1 h2 => ?_, s.tab⟩
  · obtain ⟨b, e1, e2⟩ := argsW_get aw e
    obtain ⟨v, e3, r⟩ := ar.at_ e1
    cases b with
    | v x => cases e2; exact .inr ⟨v, map_some_get e3, r⟩
    | f f => cases e2; exact .inr ⟨v, map_some_get e3, r⟩
    | s i =>
      rcases s.rw i w e2 with h | ⟨u, h1, h2⟩
      · exact .inl h
      · have r : σ[i]? = some (some v) := r
        rw [r] at h1
        cases h1
        exact .inr ⟨v, map_some_get e3, h2⟩
  · obtain ⟨i, e1, g1⟩ := arg_ho ar aw h1
    obtain ⟨j, e2, g2⟩ := arg_ho ar aw h2
    have e := s.ap i j a g1 g2
    subst e
    exact slots_one nd e1 e2
/-- a call's step, for the caller -/
theorem Stp.called (s : SR K wd fa σ ρ H) (ar : ARs (K := K) (wd := wd) (fa := fa) σ H vs as) (nd : nodupB (slotsOf as) = true) (aw : argsW ρ as = some ws) (st : Stp K wd fa (vs.map some) ws H (vs.map some) outs H') :
    Stp K wd fa σ ρ H σ (putOuts ρ as outs) H' ∧ ∀ i a, Ho σ (putOuts ρ as outs) i a → (∃ k, as[k]? = some (A.s i) ∧ Ho (vs.map some) outs k a) ∨ (i ∉ slotsOf as ∧ Ho σ ρ i a) := by
  have hol : outs.length = as.length := by rw [st.sr.len, List.length_map, ar.length]
  have lt : ∀ {k i : Nat}, as[k]? = some (A.s i) → i < ρ.length := fun {k i} e => by
    obtain ⟨v, e3, r⟩ := ar.at_ e
    have r : σ[i]? = some (some v) := r
    rw [s.len]
    exact (List.getElem?_eq_some_iff.mp r).1
  have at_ : ∀ {k i : Nat}, as[k]? = some (A.s i) → (putOuts ρ as outs)[i]? = outs[k]? := fun {k i} e => putOuts_at nd e (lt e) (by rw [hol]; exact (List.getElem?_eq_some_iff.mp e).1)
  have val : ∀ {k i : Nat}, as[k]? = some (A.s i) → ∃ v, vs[k]? = some v ∧ σ[i]? = some (some v) := fun {k i} e => ar.at_ e
  have hoP : ∀ i a, Ho σ (putOuts ρ as outs) i a → (∃ k, as[k]? = some (A.s i) ∧ Ho (vs.map some) outs k a) ∨ (i ∉ slotsOf as ∧ Ho σ ρ i a) := fun i a ⟨w, e, hh, es⟩ => by
    by_cases m : i ∈ slotsOf as
    · obtain ⟨k, ek⟩ := mem_slots m
      obtain ⟨v, e1, e2⟩ := val ek
      rw [e2] at es
      cases es
      exact .inl ⟨k, ek, w, by rw [← at_ ek]; exact e, hh, map_some_get e1⟩
    · rw [putOuts_out m] at e
      exact .inr ⟨m, w, e, hh, es⟩
  have back : ∀ {k a}, Ho (vs.map some) outs k a → (∃ i, i ∈ slotsOf as ∧ Ho σ ρ i a) ∨ H a = none := fun {k a} h => by
    rcases st.ho a ⟨k, h⟩ with ⟨l, z⟩ | z
    · obtain ⟨i, e1, g⟩ := arg_ho ar aw z
      exact .inl ⟨i, slots_mem e1, g⟩
    · exact .inr z
  refine ⟨⟨⟨by rw [putOuts_len]; exact s.len, fun i w e => ?_, fun i j a h1 h2 => ?_, st.sr.tab⟩, st.mo, fun b o q m n => st.ko b o q m fun z => n (arg_ow ar aw z).choose_spec.choose_spec.2.2, fun b h => ?_, fun b ⟨i, h⟩ => ?_, st.dom⟩, hoP⟩
  · by_cases m : i ∈ slotsOf as
    · obtain ⟨k, ek⟩ := mem_slots m
      obtain ⟨v, e1, e2⟩ := val ek
      rw [at_ ek] at e
      rcases st.sr.rw k w e with h | ⟨u, h1, h2⟩
      · exact .inl h
      · rw [map_some_get e1] at h1
        cases h1
        exact .inr ⟨v, e2, h2⟩
    · rw [putOuts_out m] at e
      rcases s.rw i w e with h | ⟨u, h1, h2⟩
      · exact .inl h
      · refine .inr ⟨u, h1, h2.mono st.mo fun a o ea hh q => ?_⟩
        obtain ⟨o', q', mu⟩ := h2.there hh ea
        rw [q] at q'; cases q'
        refine st.ko a o q mu fun z => ?_
        obtain ⟨k, j, ek, g, _⟩ := arg_ow ar aw z
        have := s.ap i j a ⟨w, e, hh, by rw [h1, ea]⟩ g
        subst this
        exact m (slots_mem ek)
  · rcases hoP i a h1 with ⟨k, ek, g1⟩ | ⟨m1, g1⟩
    · rcases hoP j a h2 with ⟨l, el, g2⟩ | ⟨m2, g2⟩
      · have := st.sr.ap k l a g1 g2
        subst this
        rw [ek] at el; cases el; rfl
      · rcases back g1 with ⟨i', m', g'⟩ | z
        · have := s.ap i' j a g' g2
          subst this
          exact absurd m' m2
        · obtain ⟨o, q, _⟩ := s.there g2
          rw [z] at q; cases q
    · rcases hoP j a h2 with ⟨l, el, g2⟩ | ⟨m2, g2⟩
      · rcases back g2 with ⟨i', m', g'⟩ | z
        · have := s.ap i' i a g' g1
          subst this
          exact absurd m' m1
        · obtain ⟨o, q, _⟩ := s.there g1
          rw [z] at q; cases q
      · exact s.ap i j a g1 g2
  · obtain ⟨i, w, e, ow, es⟩ := h
    by_cases m : i ∈ slotsOf as
    · obtain ⟨k, ek⟩ := mem_slots m
      obtain ⟨v, e1, e2⟩ := val ek
      rw [e2] at es
      cases es
      rcases st.ow b ⟨k, w, by rw [← at_ ek]; exact e, ow, map_some_get e1⟩ with z | z
      · exact .inl (arg_ow ar aw z).choose_spec.choose_spec.2.2
      · exact .inr z
    · rw [putOuts_out m] at e
      exact .inl ⟨i, w, e, ow, es⟩
  · rcases hoP i b h with ⟨k, ek, g⟩ | ⟨m, g⟩
    · rcases back g with ⟨j, _, g'⟩ | z
      · exact .inl ⟨j, g'⟩
      · exact .inr z
    · exact .inl ⟨i, g⟩
theorem WR.called {v : V} {w : W} (s : SR K wd fa σ ρ H) (ar : ARs (K := K) (wd := wd) (fa := fa) σ H vs as) (nd : nodupB (slotsOf as) = true) (aw : argsW ρ as = some ws) (st : Stp K wd fa (vs.map some) ws H (vs.map some) outs H')
    (r : WR (K := K) (wd := wd) (fa := fa) (σ := vs.map some) ws H outs H' v w) : WR (K := K) (wd := wd) (fa := fa) σ ρ H (putOuts ρ as outs) H' v w := by
  refine ⟨r.rw, r.nun, r.lk, fun a h1 h2 => ⟨(r.fr a h1 h2).1.elim .inl fun z => .inr (arg_ow ar aw z).choose_spec.choose_spec.2.2, fun i z => ?_⟩⟩
  rcases (Stp.called s ar nd aw st).2 i a z with ⟨k, ek, g⟩ | ⟨m, g⟩
  · exact (r.fr a h1 h2).2 k g
  · rcases (r.fr a h1 h2).1 with y | y
    · obtain ⟨o, q, _⟩ := s.there g
      rw [y] at q; cases q
    · obtain ⟨k, j, ek, g', _⟩ := arg_ow ar aw y
      have := s.ap j i a g' g
      subst this
      exact m (slots_mem ek)
theorem putOuts_same : ∀ {as : List A} {ws : List W} {ρ : Sl}, argsW ρ as = some ws → putOuts ρ as ws = ρ := by
  intro as ws ρ aw
  have key : ∀ (as : List A) (ws : List W) (ρ' : Sl), (∀ (k i : Nat) (w : W), as[k]? = some (A.s i) → ws[k]? = some w → ρ'[i]? = some w) → putOuts ρ' as ws = ρ' := by
    intro as
    induction as with
    | nil => intro ws ρ' _; unfold putOuts; rfl
    | cons a as ih =>
      intro ws ρ' h
      cases ws with
      | nil => cases a <;> rfl
      | cons w ws =>
        have h' : ∀ (k i : Nat) (w : W), as[k]? = some (A.s i) → ws[k]? = some w → ρ'[i]? = some w := fun k i x e1 e2 => h (k + 1) i x (by simpa using e1) (by simpa using e2)
        cases a with
        | v x => exact ih ws ρ' h'
        | f x => exact ih ws ρ' h'
        | s i =>
          have e := h 0 i w (by simp) (by simp)
          have hs : ρ'.set i w = ρ' := by
            apply List.ext_getElem?
            intro j
            by_cases hj : i = j
            · subst hj; rw [List.getElem?_set_self (List.getElem?_eq_some_iff.mp e).1, e]
            · rw [List.getElem?_set_ne hj]
          rw [putOuts, hs]
          exact ih ws ρ' h'
  refine key as ws ρ fun k i w e1 e2 => ?_
  obtain ⟨b, g1, g2⟩ := argsW_get aw e2
  rw [e1] at g1
  cases g1
  exact g2
end
end FF
end
section
set_option Elab.async false
set_option linter.all false
set_option maxRecDepth 100000
set_option maxHeartbeats 2000000
/-! GB: a comprehension over zip of two lists, where an exception is handled. -/
namespace HotL
open PySem PySem.Spec PyProof.Rows L2 HotX L2H
section
variable {prog : Program} {w : World} {A : Around} {E : Value → Shared → Prop} {s : Shared}
theorem nx_list_end {it l x1 : Addr} {i : Nat} {items} {Q : Value → Shared → Prop} (hot : HotAt A x1 s.heap) (nx : x1 ≠ it)
    (gi : s.heap.IsListIter it l i) (gl : s.heap.IsList l items) (hx : items[i]? = none)
    (hE : ∀ h' e, Heap.ExtBut it s.heap h' → (∃ o, h'.get? e = some o ∧ o.cls = .type "StopIteration") → E (.ref e) { s with heap := h' }) :
    wpAny (model prog w) A (Builtin.SmallTypes.nextOf (.ref it)) Q E s := by
  obtain ⟨hh, o1, vs1, g1, d1, c1⟩ := hot
  obtain ⟨oi, goi, gc, gd⟩ := id gi
  obtain ⟨ol, gol, _, nl, gdl⟩ := gl
  unfold Builtin.SmallTypes.nextOf
  refine wpAny_bind (wpAny_callSpecial?_slot (name := Str.ofString "__next__") gi.typeIs slot_listiter_next
    (wpAny_call_entry slot_listiter_next gi.typeIs entry_listiter_next ?_ (args_listiter_next _)))
  show wpAny _ _ (field (.ref it) 0 >>= _) _ _ s
  refine wpAny_bind (wpAny_field goi gd (x := .ref l) rfl ?_)
  show wpAny _ _ (if (Value.ref l == Value.none) = true then _ else _) _ _ s
  rw [if_neg (show ¬ ((Value.ref l == Value.none) = true) from Bool.false_ne_true)]
  show wpAny _ _ (field (.ref it) 1 >>= _) _ _ s
  refine wpAny_bind (wpAny_field goi gd (x := .int i 0) rfl ?_)
  show wpAny _ _ (seqItems? (.ref l) >>= _) _ _ s
  refine wpAny_bind (wpAny_seqItems gol gdl ?_)
  simp only [Int.toNat_natCast, hx]
  refine wpAny_bind (wpAny_rule (wpAny_bind (wpAny_setField goi gd (by simp) ?_)))
  show wpAny _ _ (newExc (.type "StopIteration") [] >>= _) _ _ _
  refine wpAny_bind ?_
  simp only [newExc, newTuple]
  refine wpAny_bind (wpAny_newObj_type ?_ (by size_fits))
  refine wpAny_bind (m := firstArgMember _ _) (wpAny_of_eq (a := Value.none) (by first | rfl | (simp only [firstArgMember]; rfl)) ?_)
  refine wpAny_newObj_type ?_ (by size_fits)
  have sb : ∀ b o, b ≠ it → s.heap.get? b = some o → (s.heap.update it (Obj.mapFields (·.setIfInBounds 0 .none))).get? b = some o := fun b o nb e => by
    rw [Heap.get?_update_other _ _ (Ne.symm nb)]; exact e
  refine raiseNew_hot ⟨hh, o1, vs1, Heap.get?_push_of_some _ (Heap.get?_push_of_some _ (sb _ _ nx g1)), d1, c1⟩ (Nat.ne_of_lt (Heap.lt_size (Heap.get?_push_of_some _ (sb _ _ nx g1)))) (Heap.get?_push_size _ rfl) rfl (by first | (simp; done) | (simp; omega) | (simp only [Array.size_append]; simp; omega)) ?_
  refine hE _ _ (fun b o nb e => ?_) ⟨_, Heap.get?_update_self _ (Heap.get?_push_size _ rfl) rfl, rfl⟩
  rw [Heap.get?_update_other _ _ (Nat.ne_of_gt (Heap.lt_size (Heap.get?_push_of_some _ (sb _ _ nb e))))]
  exact Heap.get?_push_of_some _ (Heap.get?_push_of_some _ (sb _ _ nb e))
end
section
variable {prog : Program} {w : World} {A : Around} {E : Value → Shared → Prop} {s : Shared} {x1 : Addr}
theorem zip_endH {z TI TO i1 i2 l1 l2 : Addr} {k1 k2 : Nat} {xs ys : Array Value} {a b : Value} {Q : Fin → Shared → Prop} (hot : HotAt A x1 s.heap) (nz : x1 ≠ z) (nT : x1 ≠ TO) (n1 : x1 ≠ i1) (n2 : x1 ≠ i2) (D : ZipApart z TI TO i1 i2 l1 l2)
    (gz : IsZip s.heap z TI TO .none) (gI : IsPair s.heap TI (.ref i1) (.ref i2)) (gO : IsPair s.heap TO a b)
    (g1 : s.heap.IsListIter i1 l1 k1) (g2 : s.heap.IsListIter i2 l2 k2) (m1 : s.heap.IsList l1 xs) (m2 : s.heap.IsList l2 ys) (hend : xs[k1]? = none ∨ ys[k2]? = none)
    (hE : ∀ h' e, (∀ c o, c ≠ z → c ≠ TO → c ≠ i1 → c ≠ i2 → s.heap.get? c = some o → h'.get? c = some o) → (∃ o, h'.get? e = some o ∧ o.cls = .type "StopIteration") → E (.ref e) { s with heap := h' }) :
    wpAny (model prog w) A (Builtin.«zip.__next__» ⟨[.ref z], []⟩) Q E s := by
  obtain ⟨hh, o1, vs1, q1, d1, c1⟩ := hot
  show wpAny _ _ (field (.ref z) 2 >>= _) _ _ _
  refine wpAny_bind (wpAny_field gz rfl (x := .bool false) rfl ?_)
  show wpAny _ _ (field (.ref z) 3 >>= _) _ _ _
  refine wpAny_bind (wpAny_field gz rfl (x := .ref TI) rfl ?_)
  refine wpAny_bind (wpAny_seqItems gI rfl ?_)
  show wpAny _ _ (Builtin.SmallTypes.ownedTupleIsFree (.ref z) >>= _) _ _ _
  refine wpAny_bind ?_
  unfold Builtin.SmallTypes.ownedTupleIsFree
  refine wpAny_bind (wpAny_field gz rfl (x := .none) rfl (wpAny_pure ?_))
  simp only [if_true]
  refine wpAny_bind (wpAny_rule ?_)
  refine wpAny_bind (wpAny_field gz rfl (x := .ref TO) rfl ?_)
  refine wpAny_bind (wpAny_setField_rec gz (by simp) fun e0 ez0 es0 => ?_)
  replace ez0 : IsZip e0 z TI TO .ellipsis := ez0
  have r0 : e0.get? x1 = some o1 := es0.extBut _ _ nz q1
  refine wpAny_bind ?_
  simp only [List.zipIdx_cons, List.zipIdx_nil, List.forIn_cons, List.forIn_nil]
  refine wpAny_bind (wpAny_bind (wpAny_onRaise ?_))
  show wpAny _ _ (Builtin.SmallTypes.nextOf (.ref i1) >>= _) _ _ _
  cases hx : xs[k1]? with
  | none =>
    refine wpAny_bind (nx_list_end (s := { s with heap := e0 }) ⟨hh, o1, vs1, r0, d1, c1⟩ n1 (g1.extBut es0.extBut D.i1z) (m1.extBut es0.extBut D.l1z) hx fun e1 e es1 he => ?_)
    obtain ⟨oe, hoe, hce⟩ := he
    have ez1 : IsZip e1 z TI TO .ellipsis := es1 _ _ D.i1z.symm ez0
    have nez : e ≠ z := fun x => by subst x; rw [ez1] at hoe; cases hoe; simp at hce
    refine wpAny_setField_rec ez1 (by simp) fun e2 _ es2 => hE e2 e (fun c o c1 _ c3 _ x => es2.extBut _ _ c1 (es1 _ _ c3 (es0.extBut _ _ c1 x))) ⟨oe, es2.extBut _ _ nez hoe, hce⟩
  | some x =>
    have hy : ys[k2]? = none := by rcases hend with h | h; rw [hx] at h; cases h; exact h
    refine wpAny_bind (wpAny_nextOf_list_item (g1.extBut es0.extBut D.i1z) (m1.extBut es0.extBut D.l1z) hx fun e1 h1e es1 => wpAny_pure ?_)
    have eO1 : IsPair e1 TO a b := es1.extBut _ _ D.TOi1 (es0.extBut _ _ D.TOz gO)
    refine wpAny_bind (wpAny_seqItems eO1 rfl ?_)
    refine wpAny_bind (wpAny_updateSeq_pair eO1 fun e2 eO2 es2 => ?_)
    refine wpAny_bind (wpAny_letGo (wpAny_pure ?_))
    refine wpAny_bind (wpAny_bind (wpAny_onRaise ?_))
    show wpAny _ _ (Builtin.SmallTypes.nextOf (.ref i2) >>= _) _ _ _
    have r2 : e2.get? x1 = some o1 := es2.extBut _ _ nT (es1.extBut _ _ n1 r0)
    refine wpAny_bind (nx_list_end (s := { s with heap := e2 }) ⟨hh, o1, vs1, r2, d1, c1⟩ n2 (((g2.extBut es0.extBut D.i2z).extBut es1.extBut D.i12.symm).extBut es2.extBut D.TOi2.symm)
      (((m2.extBut es0.extBut D.l2z).extBut es1.extBut D.l2i1).extBut es2.extBut D.l2TO) hy fun e3 e es3 he => ?_)
    obtain ⟨oe, hoe, hce⟩ := he
    have ez3 : IsZip e3 z TI TO .ellipsis := es3 _ _ D.i2z.symm (es2.extBut _ _ D.TOz.symm (es1.extBut _ _ D.i1z.symm ez0))
    have nez : e ≠ z := fun x => by subst x; rw [ez3] at hoe; cases hoe; simp at hce
    refine wpAny_setField_rec ez3 (by simp) fun e4 _ es4 => hE e4 e (fun c o c1 c2 c3 c4 x => es4.extBut _ _ c1 (es3 _ _ c4 (es2.extBut _ _ c2 (es1.extBut _ _ c3 (es0.extBut _ _ c1 x))))) ⟨oe, es4.extBut _ _ nez hoe, hce⟩
theorem pn_zip_endH {z TI TO i1 i2 l1 l2 : Addr} {k1 k2 : Nat} {xs ys : Array Value} {a b : Value} {Q : Option Value → Shared → Prop} (hot : HotAt A x1 s.heap) (nz : x1 ≠ z) (nT : x1 ≠ TO) (n1 : x1 ≠ i1) (n2 : x1 ≠ i2) (D : ZipApart z TI TO i1 i2 l1 l2)
    (gz : IsZip s.heap z TI TO .none) (gI : IsPair s.heap TI (.ref i1) (.ref i2)) (gO : IsPair s.heap TO a b)
    (g1 : s.heap.IsListIter i1 l1 k1) (g2 : s.heap.IsListIter i2 l2 k2) (m1 : s.heap.IsList l1 xs) (m2 : s.heap.IsList l2 ys) (hend : xs[k1]? = none ∨ ys[k2]? = none)
    (hQ : ∀ h', (∀ c o, c ≠ z → c ≠ TO → c ≠ i1 → c ≠ i2 → s.heap.get? c = some o → h'.get? c = some o) → Q none { s with heap := h' }) : wpAny (model prog w) A (pyNext (.ref z)) Q E s := by
  have ty : s.TypeIs (.ref z) "zip" := ⟨_, gz, rfl⟩
  unfold pyNext
  refine wpAny_bind (wpAny_attempt (wpAny_callSpecial?_slot (name := Str.ofString "__next__") ty F.slot_zip_next
    (wpAny_call_entry F.slot_zip_next ty F.entry_zip_next (zip_endH hot nz nT n1 n2 D gz gI gO g1 g2 m1 m2 hend fun h' e hk he => ?_) (F.args_zip_next_1 _))))
  obtain ⟨o, ho, hc⟩ := he
  refine wpAny_bind (wpAny_isInstance (T := "StopIteration") (b := true) ⟨o, ho, hc⟩ isSubtype_stop ?_)
  exact wpAny_pure (hQ _ hk)
end
/-! ### a turn where an exception is handled -/
structure TurnX (P : Program) (w : World) (K : PySem.W.Frag) (tg : Expr) (J : It) (fp : List Addr) (it : Addr) (tn : Nat → Heap → Prop) : Prop where
  obj : ∀ i h, tn i h → ∀ b ∈ fp, ∃ o, h.get? b = some o ∧ ∀ v, o.data ≠ .cell v
  keep : ∀ i h h', tn i h → (∀ b ∈ fp, ∀ o, h.get? b = some o → h'.get? b = some o) → tn i h'
  item : ∀ (X : Cx), X.prog = P → X.w = w → X.K = K → ∀ (i : Nat) (pins : List (Addr × Obj)) (s : Shared) (σ : L2.St) (H : Hp) (E : Value → Shared → Prop), Inv X pins σ H s → (∀ b ∈ fp, FpOk X pins H b) → tn i s.heap → J.go i H →
    wpAny (model P w) X.A (pyNext (.ref it)) (fun r s1 => ∃ u, r = some u ∧
      wpAny (model P w) X.A (letOwnedTupleGo tg (.ref it) u) (fun _ s2 => ∃ x H', Inv X pins σ H' s2 ∧ RelV x u ∧ J.yld i H x H' ∧ tn (i + 1) s2.heap ∧ ∀ b ∈ fp, H' b = none) E s1) E s
  done : ∀ (X : Cx), X.prog = P → X.w = w → X.K = K → ∀ (i : Nat) (pins : List (Addr × Obj)) (s : Shared) (σ : L2.St) (H : Hp) (E : Value → Shared → Prop), (∃ x1, HotAt X.A x1 s.heap) → Inv X pins σ H s → (∀ b ∈ fp, FpOk X pins H b) → tn i s.heap → J.stop i H →
    wpAny (model P w) X.A (pyNext (.ref it)) (fun r s1 => r = none ∧ Inv X pins σ H s1) E s
  self : ∀ (A : Around) (i : Nat) (s : Shared) (Q : Value → Shared → Prop) (E : Value → Shared → Prop), tn i s.heap → Q (.ref it) s → wpAny (model P w) A (pyIter (.ref it)) Q E s
theorem turn_zipX {P : Program} {w : World} {K : PySem.W.Frag} {elts : List Expr} {kk : Nat} {tpos : Pos} {a b z TI TO i1 i2 : Addr} (D : ZipApart z TI TO i1 i2 a b) :
    TurnX P w K (.Tuple elts kk tpos) (Itz K a b) [z, TI, TO, i1, i2] z (fun i h => IsZip h z TI TO .none ∧ IsPair h TI (.ref i1) (.ref i2) ∧ (∃ x y, IsPair h TO x y) ∧ h.IsListIter i1 a i ∧ h.IsListIter i2 b i) where
  obj := fun i h st c hc => by
    obtain ⟨gz, gI, ⟨x, y, gO⟩, ⟨o1, e1, _, d1⟩, ⟨o2, e2, _, d2⟩⟩ := st
    have m : c = z ∨ c = TI ∨ c = TO ∨ c = i1 ∨ c = i2 := by simpa using hc
    rcases m with q | q | q | q | q
    · rw [q]; exact ⟨_, gz, fun v r => nomatch r⟩
    · rw [q]; exact ⟨_, gI, fun v r => nomatch r⟩
    · rw [q]; exact ⟨_, gO, fun v r => nomatch r⟩
    · rw [q]; exact ⟨o1, e1, fun v r => by rw [d1] at r; cases r⟩
    · rw [q]; exact ⟨o2, e2, fun v r => by rw [d2] at r; cases r⟩
  keep := fun i h h' st k => by
    obtain ⟨gz, gI, ⟨x, y, gO⟩, g1, g2⟩ := st
    exact ⟨k z (by simp) _ gz, k TI (by simp) _ gI, ⟨x, y, k TO (by simp) _ gO⟩, g1.at fun o q => k i1 (by simp) o q, g2.at fun o q => k i2 (by simp) o q⟩
  item := by
    intro X hP hw hK i pins s σ H E I hf st hgo
    subst hP hw hK
    obtain ⟨gz, gI, ⟨x0, y0, gO⟩, g1, g2⟩ := st
    obtain ⟨xs, ys, x, y, sx, sy, hx, hy⟩ := hgo
    obtain ⟨us, rv, p1, _⟩ := I.list sx
    obtain ⟨ws, rw_, p2, _⟩ := I.list sy
    obtain ⟨u, hu, ru⟩ := rv.get hx
    obtain ⟨v, hv, rv'⟩ := rw_.get hy
    have zlt : z < s.heap.objs.size := Heap.lt_size gz
    refine wpAny_pyNext_zip_item D gz gI gO g1 g2 p1.isList p2.isList (x := u) (y := v) (by simpa using hu) (by simpa using hv) fun k1 kz kO kg1 kg2 kT ksz kk1 => ?_
    refine ⟨_, rfl, wpAny_letOwnedTupleGo_zip (s := { s with heap := k1 }) kz fun k2 kz2 sb => ?_⟩
    have kT2 : k2.get? s.heap.objs.size = some { cls := .type "tuple", data := .seq #[u, v] } := (sb.2 _ (Nat.ne_of_gt zlt)).trans kT
    have nw : ObjOk X.prog X.w (upd H s.heap.objs.size (.tup [x, y])) k2 s.heap.objs.size (.tup [x, y]) :=
      ⟨by show 2 ≤ sizeLine; decide, [u, v], .cons ru (.cons rv' .nil), ⟨_, kT2, rfl, _, rfl⟩⟩
    have I1 : Inv X pins σ (upd H s.heap.objs.size (.tup [x, y])) { s with heap := k2 } :=
      I.turnedNew (t' := s.toks) (ch := [z, TI, TO, i1, i2]) (fun c o hb q => (sb.2 c (fun r => hb (by simp [r]))).trans (kk1 c o (fun r => hb (by simp [r])) (fun r => hb (by simp [r])) (fun r => hb (by simp [r])) (fun r => hb (by simp [r])) q)) hf (Nat.le_refl _) nw
    refine ⟨.ref s.heap.objs.size, _, I1, rfl, ⟨_, x, y, rfl, I.hok.fresh (Nat.le_refl _), rfl, fun l hl => by rw [I.list_inj hl sx]; exact hx, fun l hl => by rw [I.list_inj hl sy]; exact hy⟩, ⟨kz2, ?_, ⟨u, v, ?_⟩, ?_, ?_⟩, fun c hcm => ?_⟩
    · exact (sb.2 _ D.TIz).trans (kk1 _ _ D.TIz D.TITO D.TIi1 D.TIi2 gI)
    · exact (sb.2 _ D.TOz).trans kO
    · exact kg1.at fun o q => (sb.2 _ D.i1z).trans q
    · exact kg2.at fun o q => (sb.2 _ D.i2z).trans q
    · have clt : c < s.heap.objs.size := by
        have m : c = z ∨ c = TI ∨ c = TO ∨ c = i1 ∨ c = i2 := by simpa using hcm
        rcases m with q | q | q | q | q
        · rw [q]; exact zlt
        · rw [q]; exact Heap.lt_size gI
        · rw [q]; exact Heap.lt_size gO
        · rw [q]; obtain ⟨_, e1, _⟩ := g1; exact Heap.lt_size e1
        · rw [q]; obtain ⟨_, e2, _⟩ := g2; exact Heap.lt_size e2
      rw [upd_ne (Nat.ne_of_lt clt)]
      exact (hf c hcm).1
  done := by
    intro X hP hw hK i pins s σ H E hot I hf st hgo
    subst hP hw hK
    obtain ⟨gz, gI, ⟨x0, y0, gO⟩, g1, g2⟩ := st
    obtain ⟨xs, ys, sx, sy, hend⟩ := hgo
    obtain ⟨us, rv, p1, _⟩ := I.list sx
    obtain ⟨ws, rw_, p2, _⟩ := I.list sy
    have l1 := rv.length
    have l2 := rw_.length
    have he : us.toArray[i]? = none ∨ ws.toArray[i]? = none := by
      rcases hend with q | q
      · exact .inl (by simp; omega)
      · exact .inr (by simp; omega)
    obtain ⟨x1, hh, o1, vs1, q1, d1, c1⟩ := hot
    have nz : x1 ≠ z := fun e => by rw [e, gz] at q1; cases q1; cases d1; simp at c1
    have nT : x1 ≠ TO := fun e => by rw [e, gO] at q1; cases q1; cases d1
    have n1 : x1 ≠ i1 := fun e => by
      obtain ⟨o, ho, _, hd⟩ := g1
      rw [e, ho] at q1; cases q1; rw [hd] at d1; cases d1; simp at c1
    have n2 : x1 ≠ i2 := fun e => by
      obtain ⟨o, ho, _, hd⟩ := g2
      rw [e, ho] at q1; cases q1; rw [hd] at d1; cases d1; simp at c1
    exact pn_zip_endH ⟨hh, o1, vs1, q1, d1, c1⟩ nz nT n1 n2 D gz gI gO g1 g2 p1.isList p2.isList he fun h' hk => ⟨rfl, I.turnedL (t' := s.toks) (ch := [z, TI, TO, i1, i2]) (fun c o hb q =>
      hk c o (fun r => hb (by simp [r])) (fun r => hb (by simp [r])) (fun r => hb (by simp [r])) (fun r => hb (by simp [r])) q) hf⟩
  self := fun A i s Q E st h => wpAny_pyIter_zip st.1 h
def PIX (X : Cx) (pins : List (Addr × Obj)) (σ : L2.St) (tg : Expr) (R : It → Hp → Prop) (itv : Value) (s2 : Shared) : Prop :=
  ∃ (it : Addr) (fp : List Addr) (tn : Nat → Heap → Prop) (J : It) (H' : Hp), itv = .ref it ∧ Inv X pins σ H' s2 ∧ TurnX X.prog X.w X.K tg J fp it tn ∧ tn 0 s2.heap ∧ (∀ b ∈ fp, FpOk X pins H' b) ∧ R J H'
structure PX (X : Cx) (tg iter : Expr) (wi : TI) : Prop where
  run : ∀ (pins : List (Addr × Obj)) (s : Shared) (σ : L2.St) (H : Hp) (R : It → Hp → Prop), Inv X pins σ H s → wi σ H R →
    wpAny (model X.prog X.w) X.A (eval iter X.env) (fun v s1 => wpAny (model X.prog X.w) X.A (pyIter v) (PIX X pins σ tg R) X.xe s1) X.xe s
theorem px_zip {X : Cx} {e e2 : Expr} {ta : TA} {p pos tpos : Pos} {elts : List Expr} {kk : Nat} (hg : Gl X "zip") (hm : X.mg "zip" = none) (ha : PA X [e, e2] ta)
    (hs : starEach [e, e2] X.env = (false, eval e X.env) :: starEach [e2] X.env := by rfl) (hpl : (backTo pos (starEach [e2] X.env)).any (·.1) = false := by rfl) :
    PX X (.Tuple elts kk tpos) (.Call (.Name "zip" p) [e, e2] [] pos) (iZip X.K ta) := by
  refine ⟨fun pins s σ H R I h => ?_⟩
  refine Call_ (ld_blt I hg hm PyProof.Rows.boot_zip (PyProof.Rows.callWith_type1 (thn (ha.run pos pins s σ H _ I h) fun us s1 ⟨vs, H1, I1, r1, q1⟩ => ?_) hs hpl))
  obtain ⟨a, b, xs, ys, ex, sx, sy, q⟩ := q1
  subst ex
  cases r1 with
  | cons r rr =>
    cases rr with
    | cons r' rr =>
      cases rr
      cases r
      cases r'
      obtain ⟨_, _, p1, _⟩ := I1.list sx
      obtain ⟨_, _, p2, _⟩ := I1.list sy
      refine call_zip_2 p1.isList p2.isList fun k kz kI kO k1 k2 ksz kk => wpAny_pyIter_zip kz ?_
      have I2 : Inv X pins σ H1 { s1 with heap := k } := I1.kept (t' := s1.toks) kk
      refine ⟨s1.heap.objs.size + 4, [s1.heap.objs.size + 4, s1.heap.objs.size + 2, s1.heap.objs.size + 3, s1.heap.objs.size, s1.heap.objs.size + 1], _, _, H1, rfl, I2, turn_zipX (PySem.W.ktu_apart s1.heap.objs.size a b p1.lt p2.lt), ⟨kz, kI, ⟨_, _, kO⟩, k1, k2⟩, fun c hcm => ?_, q⟩
      have hle : s1.heap.objs.size ≤ c := by
        have m : c = s1.heap.objs.size + 4 ∨ c = s1.heap.objs.size + 2 ∨ c = s1.heap.objs.size + 3 ∨ c = s1.heap.objs.size ∨ c = s1.heap.objs.size + 1 := by simpa using hcm
        rcases m with q | q | q | q | q <;> rw [q] <;> first | exact Nat.le_add_right _ _ | exact Nat.le_refl _
      exact I1.fpOk hle (I1.hok.fresh hle)
/-- an exception is handled wherever the context's invariant holds -/
def HotI (X : Cx) : Prop := ∀ (pins : List (Addr × Obj)) (s : Shared) (σ : L2.St) (H : Hp), Inv X pins σ H s → ∃ x1, HotAt X.A x1 s.heap
/-- [elt for target in iter if ..] where an exception is handled, as a value -/
theorem pe_lcX {X : Cx} {elt tg iter : Expr} {ifs : List Expr} {scope : Scope} {own : List (Str × Nat)} {pos : Pos} {wi : TI} {g : TG} {tt : TT} {te : TE} (hc : HotC X) (hN : X.N.Nodup) (hi : PX X tg iter wi) (ok : BlkOk X.N X.env.scope scope own)
    (hg : ∀ (s : Shared) (H : Hp) (C : Addr) (cl : List (Str × Addr)) (fp : List Addr), HotI (X.blk s H scope (compEnvC scope cl C X.env) fp) → PG (X.blk s H scope (compEnvC scope cl C X.env) fp) tg g) (ht : ∀ (s : Shared) (H : Hp) (C : Addr) (cl : List (Str × Addr)) (fp : List Addr), PTs (X.blk s H scope (compEnvC scope cl C X.env) fp) ifs tt)
    (he : ∀ (s : Shared) (H : Hp) (C : Addr) (cl : List (Str × Addr)) (fp : List Addr), PE (X.blk s H scope (compEnvC scope cl C X.env) fp) elt te) (hs : ∀ x, foldedSetIterable iter X.env x = pure x := by intro _; rfl) :
    PE X (.ListComp elt [⟨tg, iter, ifs, 0⟩] scope pos) (tLc wi g tt te (own.map (·.2))) := by
  refine ⟨fun pins s σ H Q I h => ?_⟩
  rw [eval_ListComp]
  have cl : ∀ y ∈ scope.names, y.2 = .free → ∃ c, X.env.cells.lookup y.1 = some c := fun y hy e => (ok.free y hy e).elim (fun k => I.ok.has _ (.inl k)) fun k => I.ok.has _ (.inr k)
  refine wpAny_comprehension_free (use := none) rfl hs (closure_ok cl) ok.kind (fun y hy e => by rw [ok.uniq y hy, e])
    (thn (hi.run pins s σ H _ I h) fun _ s1 hx => thn hx fun _ s2 h2 => ?_)
  obtain ⟨it, fp, tn, J, H2, e, I2, T, t2, f2, q⟩ := h2
  subst e
  refine wpAny_newObj_type (newEnv_comp ?_) (by show 0 ≤ sizeLine; decide)
  generalize hD : s2.heap.objs.size = D
  have Dn : H2 D = none := I2.hok.fresh (Nat.le_of_eq hD)
  obtain ⟨W, ⟨m0, w0⟩, turn⟩ := q D Dn
  generalize hs3 : ({ s2 with heap := s2.heap.push { cls := .type "list", data := .seq ([] : List Value).toArray } } : Shared) = s3
  have I3 : Inv X pins σ (upd H2 D (.lst [])) s3 := by
    rw [← hs3]
    refine I2.laid (t' := s2.toks) (fun b o e => Heap.get?_push_of_some _ e) (Nat.le_of_eq hD) ⟨Nat.zero_le _, [], 0, .nil, ?_⟩
    rw [← hD]
    exact Heap.get?_push_size _ rfl
  have e3 : s3.heap = s2.heap.push { cls := .type "list", data := .seq ([] : List Value).toArray } := by rw [← hs3]
  have f3 : ∀ b ∈ fp, FpOk X pins (upd H2 D (.lst [])) b ∧ b < s3.heap.objs.size := fun b hb => by
    obtain ⟨o, eo, _⟩ := T.obj _ _ t2 b hb
    have lt := Heap.lt_size eo
    refine ⟨⟨?_, (f2 b hb).2⟩, by rw [e3, Heap.size_push]; exact Nat.lt_succ_of_lt lt⟩
    rw [upd_ne (by rw [← hD]; exact Nat.ne_of_lt lt)]
    exact (f2 b hb).1
  have t3 : tn 0 s3.heap := T.keep _ _ _ t2 fun b _ o e => by rw [e3]; exact Heap.get?_push_of_some _ e
  have I4 := block_start I3 ok hN f3
  have pg := hg s3 (upd H2 D (.lst [])) s3.heap.objs.size (cellsFrom (s3.heap.objs.size + 1) scope.names (cloFrom X.env.cells scope.names [])) fp
  have pt := ht s3 (upd H2 D (.lst [])) s3.heap.objs.size (cellsFrom (s3.heap.objs.size + 1) scope.names (cloFrom X.env.cells scope.names [])) fp
  have pe := he s3 (upd H2 D (.lst [])) s3.heap.objs.size (cellsFrom (s3.heap.objs.size + 1) scope.names (cloFrom X.env.cells scope.names [])) fp
  show codeAny _ _ (.compStart (.ListComp elt [⟨tg, iter, ifs, 0⟩] scope pos) 0 (.ref it) (.ref D) (compEnvC scope (cellsFrom (s3.heap.objs.size + 1) scope.names (cloFrom X.env.cells scope.names [])) s3.heap.objs.size X.env)) (compPost (model X.prog X.w) X.A X.xe none _ (.ref D) s3.heap.objs.size) { s3 with heap := pushCells (s3.heap.push { cls := .type "dict", data := .dict #[] }) scope.names }
  have nfp : ∀ b ∈ fp, (upd H2 D (.lst [])) b = none := fun b hb => (f3 b hb).1.1
  generalize hce : compEnvC scope (cellsFrom (s3.heap.objs.size + 1) scope.names (cloFrom X.env.cells scope.names [])) s3.heap.objs.size X.env = ce at I4 pg pt pe ⊢
  have cL : ce.locals = s3.heap.objs.size := by subst hce; rfl
  generalize hH3 : upd H2 D (.lst []) = H3 at I3 I4 pg pt pe w0 nfp f3
  generalize hs4 : ({ s3 with heap := pushCells (s3.heap.push { cls := .type "dict", data := .dict #[] }) scope.names } : Shared) = s4 at I4 ⊢
  have t4 : tn 0 s4.heap := T.keep _ _ _ t3 fun b _ o e => by rw [← hs4]; exact pushCells_keeps _ _ _ _ (Heap.get?_push_of_some _ e)
  have stat : ∀ {σ' : L2.St} {H' : Hp} {s' : Shared}, Inv (X.blk s3 H3 scope ce fp) [] σ' H' s' → (∀ b ∈ fp, H' b = none) → ∀ b ∈ fp, FpOk (X.blk s3 H3 scope ce fp) [] H' b := fun {σ' H' s'} I' hn b hb =>
    ⟨hn b hb, (I'.ok.exf b hb).1, I'.ok.exfs b hb, .inl hb, fun x c e => (I'.ok.exf b hb).2 x c e, fun p hp => absurd (show p ∈ ([] : List (Addr × Obj)) ++ [] from hp) (by simp)⟩
  -- the handled exception stands through the block
  have hotB : HotI (X.blk s3 H3 scope ce fp) := fun pins' s' σ' H' I' => by
    obtain ⟨p, ⟨hh, v1, e1, c1⟩, hp⟩ := hc
    have P3 := I3.pin p (List.mem_append_left _ hp)
    have nf : p.1 ∉ frs X.stack := fun hm => (List.mem_cons.mp (I3.stkSub p.1 hm)).elim P3.2.2.1 P3.2.2.2.1
    have nx : p.1 ∉ fp := fun hm => (f3 p.1 hm).1.2.2.2.2.2 p (List.mem_append_left _ hp) rfl
    exact ⟨p.1, hh, p.2, v1, I'.base.keep p.1 p.2 P3.1 P3.2.1 nf nx, e1, c1⟩
  have pg := pg hotB
  have loop : codeAny (model X.prog X.w) X.A (.compLoop (.ListComp elt [⟨tg, iter, ifs, 0⟩] scope pos) 0 (.ref it) (.ref D) ce) (compPost (model X.prog X.w) X.A X.xe none (EP X pins σ Q) (.ref D) s3.heap.objs.size) s4 := by
    refine compLoop_any (fun n s' => ∃ i H', Inv (X.blk s3 H3 scope ce fp) [] (wipe σ (own.map (·.2))) H' s' ∧ tn i s'.heap ∧ (∀ b ∈ fp, H' b = none) ∧ W i n H') ?_ m0 ⟨0, H3, I4, t4, nfp, w0⟩
    rintro n s5 ⟨i, H5, I5, t5, n5, w5⟩
    rcases turn i n H5 w5 with ⟨stop, qq⟩ | ⟨go, Nx, hNx, step⟩
    · refine thnF (T.done (X.blk s3 H3 scope ce fp) rfl rfl rfl i [] s5 _ H5 (fun _ _ => False) (hotB _ _ _ _ I5) I5 (stat I5 n5) t5 stop) fun r s6 ⟨hr, I6⟩ => ?_
      subst hr
      have I7 : Inv X pins σ H5 s6 := I3.call' (ch := fp) I6.os I6.base I6.hok I6.bare fun b hb => ⟨(f3 b hb).1.2.2.2.1, (f3 b hb).1.2.1, (f3 b hb).1.2.2.2.2.1, (f3 b hb).1.2.2.2.2.2⟩
      have nC : H5 s3.heap.objs.size = none := by
        have z : H5 ce.locals = none := I6.free
        rw [cL] at z
        exact z
      obtain ⟨m, hn, _⟩ := I6.loc
      have hn : s6.heap.Ns ce.locals m := hn
      rw [cL] at hn
      obtain ⟨g0, g1, g2, g3, g4, g5⟩ := I3.fpOk (H' := H5) (Nat.le_refl _) nC
      exact ⟨m, hn, fun h'' sb => ⟨.ref D, H5, I7.turned (t' := s6.toks) (fun b o hb e => (sb.2 b hb).trans e) g0 g1 g3 g4 g5, rfl, qq⟩⟩
    · refine thnF (T.item (X.blk s3 H3 scope ce fp) rfl rfl rfl i [] s5 _ H5 (fun _ _ => False) I5 (stat I5 n5) t5 go) fun r s6 ⟨u, hr, h6⟩ => ?_
      subst hr
      refine thnF h6 fun _ s7 ⟨x, H7, I7, r7, y7, t7, n7⟩ => ?_
      have I7' := I7.pinned (stat I7 n7) (T.obj _ _ t7)
      refine thnF (pg.run _ s7 _ H7 x u _ I7' r7 (step x H7 y7)) fun _ s8 ⟨σ8, H8, I8, hw8, q8⟩ => ?_
      refine thnF (pt.run _ s8 σ8 H8 _ I8 q8) fun b s9 ⟨H9, I9, q9⟩ => ?_
      have fin : ∀ {s' : Shared} {H' : Hp}, Inv (X.blk s3 H3 scope ce fp) ([] ++ pinsAt fp s7.heap) σ8 H' s' → Nx H' → ∃ m, m < n ∧ ∃ i H', Inv (X.blk s3 H3 scope ce fp) [] (wipe σ (own.map (·.2))) H' s' ∧ tn i s'.heap ∧ (∀ b ∈ fp, H' b = none) ∧ W i m H' := fun {s' H'} I' nx => by
        obtain ⟨m', hm, w'⟩ := hNx H' nx
        have pin' : ∀ b ∈ fp, ∀ o, s7.heap.get? b = some o → s'.heap.get? b = some o ∧ H' b = none := fun b hb o e =>
          let z := I'.pin (b, o) (List.mem_append_right _ (List.mem_append_right _ (mem_pinsAt hb e)))
          ⟨z.1, z.2.1⟩
        have hl : (wipe σ (own.map (·.2))).length = σ8.length := by rw [← hw8, wipe_length]
        refine ⟨m', hm, i + 1, H', (I'.unpinned (pins := [])).weak hl (fun j v e => ?_), T.keep _ _ _ t7 fun b hb o e => (pin' b hb o e).1, fun b hb => ?_, w'⟩
        · rw [← hw8] at e
          exact (wipe_some e).1
        · obtain ⟨o, e, _⟩ := T.obj _ _ t7 b hb
          exact (pin' b hb o e).2
      cases b with
      | false =>
        simp only [Bool.false_eq_true, if_false] at q9 ⊢
        exact fin I9 q9
      | true =>
        simp only [if_true] at q9 ⊢
        refine thnF (pe.run _ s9 σ8 H9 _ I9 q9) fun z s10 ⟨yv, H10, I10, r10, acc, hD10, hz10, nx⟩ => ?_
        exact app_ok (X := X.blk s3 H3 scope ce fp) I10 hD10 hz10 r10 fun s11 I11 => fin I11 nx
  exact codeAny_compStart_list loop (T.self X.A 0 _ _ _ t4 loop)
end HotL
end
section
set_option Elab.async false
set_option linter.all false
set_option maxRecDepth 100000
set_option maxHeartbeats 2000000
/-! GC: a tuple unpacked, isinstance, a def called where an exception is handled. -/
namespace HotL
open PySem PySem.Spec PyProof.Rows L2 HotX L2H
section
variable {prog : Program} {w : World} {A : Around} {E : Value → Shared → Prop} {s : Shared}
theorem pn_tup_endH {it t x1 : Addr} {i : Nat} {items} {Q : Option Value → Shared → Prop} (hot : HotAt A x1 s.heap) (nx : x1 ≠ it)
    (hit : s.heap.IsTupleIter it t i) (ht : s.heap.IsTuple t items) (hx : items[i]? = none)
    (hQ : ∀ h', Heap.ExtBut it s.heap h' → Q none { s with heap := h' }) : wpAny (model prog w) A (pyNext (.ref it)) Q E s := by
  obtain ⟨hh, o1, vs1, g1, d1, c1⟩ := hot
  obtain ⟨o, ho, hc, hd⟩ := id hit
  obtain ⟨ol, hol, _, nl, hdl⟩ := ht
  unfold pyNext
  refine wpAny_bind (wpAny_attempt (wpAny_callSpecial?_slot (name := Str.ofString "__next__") hit.typeIs F.slot_tuple_iterator_next
    (wpAny_call_entry F.slot_tuple_iterator_next hit.typeIs F.entry_tuple_iterator_next ?_ (F.args_tuple_iterator_next_1 _))))
  show wpAny _ _ (field (.ref it) 0 >>= _) _ _ s
  refine wpAny_bind (wpAny_field ho hd (x := .ref t) rfl ?_)
  show wpAny _ _ (if (Value.ref t == Value.none) = true then _ else _) _ _ s
  rw [if_neg (show ¬ ((Value.ref t == Value.none) = true) from Bool.false_ne_true)]
  show wpAny _ _ (field (.ref it) 1 >>= _) _ _ s
  refine wpAny_bind (wpAny_field ho hd (x := .int i 0) rfl ?_)
  show wpAny _ _ (seqItems? (.ref t) >>= _) _ _ s
  refine wpAny_bind (wpAny_seqItems hol hdl ?_)
  simp only [Int.toNat_natCast, hx]
  refine wpAny_bind (wpAny_rule (wpAny_bind (wpAny_setField ho hd (by simp) ?_)))
  show wpAny _ _ (newExc (.type "StopIteration") [] >>= _) _ _ _
  refine wpAny_bind ?_
  simp only [newExc, newTuple]
  refine wpAny_bind (wpAny_newObj_type ?_ (by size_fits))
  refine wpAny_bind (m := firstArgMember _ _) (wpAny_of_eq (a := Value.none) (by first | rfl | (simp only [firstArgMember]; rfl)) ?_)
  refine wpAny_newObj_type ?_ (by size_fits)
  have sb : ∀ b o, b ≠ it → s.heap.get? b = some o → (s.heap.update it (Obj.mapFields (·.setIfInBounds 0 .none))).get? b = some o := fun b o nb e => by
    rw [Heap.get?_update_other _ _ (Ne.symm nb)]; exact e
  refine raiseNew_hot ⟨hh, o1, vs1, Heap.get?_push_of_some _ (Heap.get?_push_of_some _ (sb _ _ nx g1)), d1, c1⟩ (Nat.ne_of_lt (Heap.lt_size (Heap.get?_push_of_some _ (sb _ _ nx g1)))) (Heap.get?_push_size _ rfl) rfl (by first | (simp; done) | (simp; omega) | (simp only [Array.size_append]; simp; omega)) ?_
  refine wpAny_bind (wpAny_isInstance (T := "StopIteration") (b := true) ⟨_, Heap.get?_update_self _ (Heap.get?_push_size _ rfl) rfl, rfl⟩ isSubtype_stop ?_)
  refine wpAny_pure (hQ _ fun b o nb e => ?_)
  rw [Heap.get?_update_other _ _ (Nat.ne_of_gt (Heap.lt_size (Heap.get?_push_of_some _ (sb _ _ nb e))))]
  exact Heap.get?_push_of_some _ (Heap.get?_push_of_some _ (sb _ _ nb e))
theorem unpackItems_tupH {t x1 : Addr} {items : Array Value} {Q : List Value → Shared → Prop} (hot : HotAt A x1 s.heap) (ht : s.heap.IsTuple t items)
    (hQ : ∀ h', Heap.ExtBut s.heap.objs.size s.heap h' → Q items.toList { s with heap := h' }) : wpAny (model prog w) A (unpackItems (.ref t) items.size none) Q E s := by
  obtain ⟨hh, o1, vs1, g1, d1, c1⟩ := hot
  have hlt : t ≠ s.heap.objs.size := by obtain ⟨o, ho, _⟩ := ht; exact Nat.ne_of_lt (Heap.lt_size ho)
  have hlx : x1 ≠ s.heap.objs.size := Nat.ne_of_lt (Heap.lt_size g1)
  unfold unpackItems
  refine wpAny_bind ?_
  · unfold notIterableAtAll
    refine wpAny_bind (wpAny_specialOf ht.typeIs F.slot_tuple_iter.lookup ?_)
    refine wpAny_pure ?_
    simp only [Bool.false_eq_true, if_false]
    refine wpAny_bind (wpAny_holding (wpAny_pyIter_tuple ht ?_))
    refine wpAny_bind (wpAny_holding (wpAny_draw_tuple hlt items.size 0 _ _ ⟨_, Heap.get?_push_size _ rfl, rfl, rfl⟩ (ht.push _) (by omega) fun h₁ hit₁ hs₁ => ?_))
    have hall : List.take items.size (List.drop 0 items.toList) = items.toList := by
      rw [List.drop_zero]; exact List.take_of_length_le (by simp)
    rw [hall]
    rw [if_neg (by simp)]
    have ht₁ : h₁.IsTuple t items := (ht.push _).extBut hs₁.extBut hlt
    refine wpAny_bind (wpAny_holding (pn_tup_endH (x1 := x1) ⟨hh, o1, vs1, hs₁.extBut _ _ hlx (Heap.get?_push_of_some _ g1), d1, c1⟩ hlx hit₁ ht₁ (by simp) fun h₂ he₂ => ?_))
    simp only [Option.isSome_none, Bool.false_eq_true, if_false]
    refine wpAny_pure (hQ h₂ fun b o hb e => he₂ b o hb (hs₁.extBut b o hb (Heap.get?_push_of_some _ e)))
theorem assign_TupleH {env : Env} {elts : List Expr} {k} {pos : Pos} {t x1 : Addr} {items : Array Value} {Q : Unit → Shared → Prop} (hot : HotAt A x1 s.heap) (ht : s.heap.IsTuple t items)
    (hn : (assignEach elts env).length = items.size) (hstar : (assignEach elts env).findIdx? (·.1) = none)
    (h : ∀ h', Heap.ExtBut s.heap.objs.size s.heap h' → wpAny (model prog w) A (assignInOrder ((assignEach elts env).map (·.2)) items.toList) Q E { s with heap := h' }) :
    wpAny (model prog w) A (assign (.Tuple elts k pos) env (.ref t)) Q E s := by
  rw [assign_Tuple]
  refine wpAny_bind (wpAny_standAt ?_)
  unfold unpack
  rw [hn, hstar]
  exact wpAny_bind (wpAny_holding (unpackItems_tupH hot ht h))
end
section
variable {X : Cx} {pos : Pos}
theorem pg_tupH {es : List Expr} {k : Nat} {t : TGs} {n : Nat} (hc : HotI X) (h : PGs X es t)
    (hn : (assignEach es X.env).length = n := by rfl) (hst : (assignEach es X.env).findIdx? (·.1) = none := by rfl) : PG X (.Tuple es k pos) (gTup X.K n t) := by
  refine ⟨fun pins s σ H v u Q I r hw => ?_⟩
  obtain ⟨a, xs, e1, hq, hl, hw⟩ := hw
  subst e1
  cases r
  obtain ⟨its, rv, ht, hz⟩ := I.tuple hq
  obtain ⟨x1, hot⟩ := hc _ _ _ _ I
  refine assign_TupleH hot (show s.heap.IsTuple a its.toArray from ht) (by simp [hn, ← hl, rv.length]) hst fun h' hx => ?_
  have I1 : Inv X pins σ H { s with heap := h' } := I.kept (t' := s.toks) fun b o e => hx b o (Nat.ne_of_lt (Heap.lt_size e)) e
  exact h.run pins _ σ H xs _ Q I1 (by simpa using rv) hw
/-! ### isinstance of the exception that is handled -/
theorem call_isP {a D : Addr} {oe : Obj} (hm : (a, oe) ∈ X.pn) (C : ExcC X.K D) (hz : Zc (.ref D) none oe) (hf : ∃ vs, oe.data = .fields vs) : CallR X (.builtin "isinstance") (rIsE X.K D a) := by
  intro pins s σ H xs us Q I r h
  obtain ⟨c, cv, b, rfl, hcv, e, q⟩ := h
  cases r with
  | cons rx rr =>
    cases rr with
    | cons rt rr =>
      cases rr
      cases rx
      have ec := hcv _ rt
      subst ec
      obtain ⟨hget, _⟩ := I.pin (a, oe) (List.mem_append.mpr (.inl hm))
      obtain ⟨vs, hv⟩ := hf
      have J : PySem.W.InstAt s.heap a oe D none := by
        obtain ⟨oc, od, oda, osl⟩ := oe
        obtain ⟨h1, h2⟩ := hz
        dsimp only at h1 h2 hv
        subst h1 h2 hv
        exact ⟨hget, rfl, rfl, trivial⟩
      exact PySem.W.kia_one (PySem.W.handS_kitx_exc C.hg C.hk C.hs C.hd C.ha C.hn C.ht C.hm) I.kIn J e (fun z => nomatch z) fun tk => ⟨.bl b, H, I.kept (t' := tk) fun _ _ z => z, rfl, q⟩
end
/-! ### a def called with the exception that is handled -/
abbrev SpP := Addr × Obj → Sp
structure FnP' (P : Program) (w : World) (K : PySem.W.Frag) (mg : Str → Option Value) (base : Heap) (CX : CXT) (k : Nat) (f : Addr) (fd : FuncData) (ps : List Str) (sp : SpP) : Prop where
  len : ∀ p vs H Q E, sp p vs H Q E → vs.length = ps.length
  run : ∀ (A : Around) (outer : List Env) (s : Shared) (H : Hp) (args : Args) (us : List Value) (vs : List V) (Q : VK) (E : XK) (p : Addr × Obj), RoomH k A → Hot1 A p → PinOk outer H s p → Env0 P w K mg base A outer s H → BindsTo s fd args (ps.zip us) → Vals vs us → sp p vs H Q E →
    codeAny (model P w) A (.call (.ref f) args) (CR CX outer P w H s Q E) s
theorem fn_ofP {CX : CXT} {P : Program} {w : World} {K : PySem.W.Frag} {mg : Str → Option Value} {base : Heap} {k : Nat} {f : Addr} {name qual : Str} {params : Arguments} {body : List Stmt} {scope : Scope} {dV kV doc pm cdv ct oc : Value} {an od : Option Addr}
    {osl : Array (Option Value)} {N ps : List Str} {sp : SpP} (lk : K.lookup f = some ⟨oc, od, .func (PySem.W.fnOf name qual params body scope dV kV doc pm an cdv ct), osl⟩) (hcd : PySem.W.codeIn K cdv qual = true) (S : FnScope N ps scope)
    (len : ∀ p vs H Q E, sp p vs H Q E → vs.length = ps.length)
    (hbody : ∀ (A : Around) (outer : List Env) (s : Shared) (H : Hp) (vs : List V) (Q : VK) (E : XK) (p : Addr × Obj), Hot1 A p → RoomH k (A.deeper (envOfC qual scope s.heap.objs.size f cdv)) → sp p vs H Q E →
      ∃ t, PSs (cxH CX P w K mg base N qual scope f cdv A outer s H E p) body t ∧ t { nx := fun _ H' => Q .non H', rt := Q } (L2.start N vs) H) :
    FnP' P w K mg base CX (k + 1) f (PySem.W.fnOf name qual params body scope dV kV doc pm an cdv ct) ps sp := by
  refine ⟨len, fun A outer s H args us vs Q E p hr hot hpin e0 hb r hsp => ?_⟩
  have hl := len _ _ _ _ _ hsp
  have KX : K.In s.heap := e0.mod.kin.keeps fun b o e => (e0.bs b o e).1
  have lim : s.heap.NoLimit := e0.mod.nolimit.keeps fun b o e => (e0.bs b o e).1
  have hkind : ∀ y ∈ ps.zip us, scope.names.lookup y.1 = some .local ∨ (scope.names.lookup y.1 = some .cell ∧ ((cellsFrom (s.heap.objs.size + 1) scope.names []).lookup y.1).isSome = true) := fun ⟨n, v⟩ hy => by
    rcases S.par n (List.of_mem_zip hy).1 with q | q
    · exact .inl q
    · exact .inr ⟨q, PySem.W.cellsFrom_some _ _ _ (.inl q)⟩
  refine codeAny_call_function hr.depth (KX _ _ lk) rfl S.co S.gen rfl (PySem.W.codeRec_of KX hcd) (hb _ _ _ _ ?_)
  refine wpAny_newFunctionEnv_cells S.kind hkind fun env he s1 x => ?_
  subst he
  refine ⟨lim.keeps x.toInCall.keep, codeAny_func ?_⟩
  obtain ⟨t, ht, hq⟩ := hbody A outer s H vs Q E p hot (hr.deeper _) hsp
  have I : Inv (cxH CX P w K mg base N qual scope f cdv A outer s H E p) [] (L2.start N vs) H s1 := inv_startH S hpin e0 hl r x
  refine wpAny_mono (ht.run [] s1 (L2.start N vs) H _ I hq) (fun fl s' hs => ?_) fun e s' hs => hs
  have fin : ∀ {σ' : L2.St} {H' : Hp} {v : V} {u : Value}, Inv (cxH CX P w K mg base N qual scope f cdv A outer s H E p) [] σ' H' s' → RelV v u → Q v H' → CE outer P w H s Q u s' :=
    fun {σ' H' v u} J rv q => ⟨v, H', J.os, J.bare, J.base, J.hok, rv, q⟩
  cases fl with
  | ret u =>
    obtain ⟨v, σ', H', J, rv, q⟩ := hs
    exact fin J rv q
  | next =>
    obtain ⟨σ', H', J, q⟩ := hs
    exact fin (v := V.non) (u := Value.none) J rfl q
  | brk =>
    obtain ⟨_, _, _, q⟩ := hs
    exact False.elim q
  | cont =>
    obtain ⟨_, _, _, q⟩ := hs
    exact False.elim q
section
variable {X : Cx} {CX : CXT} {k : Nat} {f : Addr} {fd : FuncData} {ps : List Str} {sp : SpP} {E : XK} {x : Str} {q pos : Pos} {e : Expr} {es : List Expr} {t : TA} {p : Addr × Obj}
theorem pe_callP (F : FnP' X.prog X.w X.K X.mg X.base CX k f fd ps sp) (hr : RoomH k X.A) (hot : Hot1 X.A p) (hp : p ∈ X.pn) (hg : Gl X x) (hm : X.mg x = some (.ref f)) (hk : PySem.W.keepIn X.K (.ref f) = true) (hb : Binds X.K fd ps []) (hx : ∀ σ, PassesAt CX X σ E)
    (ha : PA X (e :: es) t) (hdb : (x == ("__debug__" : Str)) = false := by decide) (he : starEach (e :: es) X.env = (false, eval e X.env) :: starEach es X.env := by rfl) (hpl : (backTo pos (starEach es X.env)).any (·.1) = false := by rfl) :
    PE X (.Call (.Name x q) (e :: es) [] pos) (tCallS (sp p) (fun _ => E) t) := by
  refine ⟨fun pins s σ H Q I h => ?_⟩
  refine wpAny_Call_Name_kw (ld_glob I hg hm ?_ hdb)
  refine PySem.W.callWith_K (h₀ := X.base) I.ok.mod.kin hk (thn (ha.run pos pins s σ H _ I h) fun us s1 ⟨vs, H1, I1, r, h⟩ => ⟨I1.kIn, ?_⟩) he hpl
  have hl : us.length = ps.length := by rw [← r.length]; exact F.len _ _ _ _ _ h
  have b := hb s1 us I1.kIn (by rw [List.append_nil]; exact hl)
  rw [List.append_nil] at b
  have P1 := I1.pin p (List.mem_append_left _ hp)
  have hpin : PinOk X.stack H1 s1 p := ⟨P1.1, P1.2.1, fun hm => (List.mem_cons.mp (I1.stkSub p.1 hm)).elim P1.2.2.1 P1.2.2.2.1, P1.2.2.2.2⟩
  refine wpAny_call (codeAny_mono (F.run X.A X.stack s1 H1 ⟨us, []⟩ us vs Q E p hr hot hpin I1.env0 b r h) fun r s' hq => ?_)
  cases r with
  | error e => exact hx σ pins H1 s1 e s' I1 hq
  | ok fl =>
    cases fl with
    | ret u => exact I1.after hq
    | next => exact False.elim hq
    | brk => exact False.elim hq
    | cont => exact False.elim hq
end
end HotL
end
section
set_option Elab.async false
set_option linter.all false
set_option maxRecDepth 100000
set_option maxHeartbeats 2000000
/-! GD: the names of the classes that the handled exception is of. -/
namespace HotL
open PySem PySem.Spec PyProof.Rows L2 HotX L2H FF
def Ext (H H' : Hp) : Prop := ∀ b o, H b = some o → H' b = some o
theorem Ext.refl (H : Hp) : Ext H H := fun _ _ h => h
theorem Ext.trans {A B C : Hp} (x : Ext A B) (y : Ext B C) : Ext A C := fun b o h => y b o (x b o h)
theorem Ext.new {H : Hp} {a : Addr} {u : HO} (h : H a = none) : Ext H (upd H a u) := fun b o e => by
  rw [upd_ne (ne_of_none e h)]; exact e
/-- what a name of a class tells of the exception's class D -/
def IsN (X : Cx) (D : Addr) (x : Str) (b : Bool) : Prop := ∃ (v : V) (cv : Value), (∀ u, RelV v u → u = cv) ∧ PySem.W.kitOne X.K (.ref D) cv = some b ∧ ∀ pos : Pos, PE X (.Name x pos) (tC v)
def kN : List Str := ["e", "some", "words", "word", "good"]
structure KX (X : Cx) (a D : Addr) (oe : Obj) (sc : Scope) : Prop where
  N : X.N = kN
  sc : X.env.scope = sc
  fn : ∀ x, X.fn x = true
  hot : HotC X
  mem : (a, oe) ∈ X.pn
  ec : ExcC X.K D
  zc : Zc (.ref D) none oe
  fl : ∃ vs, oe.data = .fields vs
  isi : Gl X "isinstance" ∧ X.mg "isinstance" = none
  zip : Gl X "zip" ∧ X.mg "zip" = none
section
variable {X : Cx} {a D : Addr} {oe : Obj} {sc : Scope}
def isB (x : Str) : Expr → Bool
  | .Call (.Name y _) [.Name z _, .Name u _] [] _ => decide (y = "isinstance") && decide (z = "e") && decide (u = x)
  | _ => false
def isBs : List Str → List Expr → Bool
  | [], es => es.isEmpty
  | x :: xs, es => match es with
    | e :: es => isB x e && isBs xs es
    | [] => false
def strB (x : Str) : Expr → Bool
  | .Constant (.str y) _ _ => decide (y = x)
  | _ => false
def strBs : List Str → List Expr → Bool
  | [], es => es.isEmpty
  | x :: xs, es => match es with
    | e :: es => strB x e && strBs xs es
    | [] => false
/-- items that are always the same -/
def itR (a : Addr) (vs : List V) : TA := fun σ H Q => σ[0]? = some (some (.ref a)) ∧ Q vs H
theorem pe_isN (k : KX X a D oe sc) (hv : Vis sc "e") {x : Str} {b : Bool} (n : IsN X D x b) {e : Expr} (h : isB x e = true) : PE X e (fun σ H Q => σ[0]? = some (some (.ref a)) ∧ Q (.bl b) H) := by
  unfold isB at h
  split at h
  · rename_i y p1 z p2 u p3 pos
    simp only [Bool.and_eq_true, decide_eq_true_eq] at h
    obtain ⟨⟨rfl, rfl⟩, rfl⟩ := h
    obtain ⟨v, cv, h1, h2, h3⟩ := n
    refine PE.weak (pe_callB (call_isP k.mem k.ec k.zc k.fl) k.isi.1 k.isi.2 (by rfl) (pa_cons (pe_var (i := 0) (by rw [k.N]; rfl) (by rw [k.sc]; exact hv)) (pa_cons (h3 p3) pa_nil))) fun σ H Q q => ?_
    exact ⟨_, q.1, v, cv, b, rfl, h1, h2, q.2⟩
  · cases h
theorem not_star {x : Str} {e : Expr} {es : List Expr} {env : Env} (h : isB x e = true) : starEach (e :: es) env = (false, eval e env) :: starEach es env := by
  unfold isB at h
  split at h
  · rfl
  · cases h
theorem not_starS {x : Str} {e : Expr} {es : List Expr} {env : Env} (h : strB x e = true) : starEach (e :: es) env = (false, eval e env) :: starEach es env := by
  unfold strB at h
  split at h
  · rfl
  · cases h
theorem pa_isN (k : KX X a D oe sc) (hv : Vis sc "e") : ∀ (xs : List Str) (bs : List Bool) (es : List Expr), xs.length = bs.length → (∀ p ∈ xs.zip bs, IsN X D p.1 p.2) → isBs xs es = true → PA X es (itR a (bs.map V.bl))
  | [], bs, es, hl, hn, h => by
    cases bs with
    | cons b bs => simp at hl
    | nil =>
      cases es with
      | cons e es => simp [isBs] at h
      | nil => exact PA.weak pa_nil fun σ H Q q => q.2
  | x :: xs, bs, es, hl, hn, h => by
    cases bs with
    | nil => simp at hl
    | cons b bs =>
      cases es with
      | nil => simp [isBs] at h
      | cons e es =>
        simp only [isBs, Bool.and_eq_true] at h
        refine PA.weak (pa_cons (pe_isN k hv (hn (x, b) (by simp)) h.1) (pa_isN k hv xs bs es (by simpa using hl) (fun p hp => hn p (by simp [hp])) h.2) (not_star h.1)) fun σ H Q q => ?_
        exact ⟨q.1, q.1, q.2⟩
theorem pa_str : ∀ (xs : List Str) (es : List Expr), strBs xs es = true → PA X es (itR a (xs.map V.str))
  | [], es, h => by
    cases es with
    | cons e es => simp [strBs] at h
    | nil => exact PA.weak pa_nil fun σ H Q q => q.2
  | x :: xs, es, h => by
    cases es with
    | nil => simp [strBs] at h
    | cons e es =>
      simp only [strBs, Bool.and_eq_true] at h
      have h1 := h.1
      unfold strB at h1
      split at h1
      · have e1 := of_decide_eq_true h1
        subst e1
        refine PA.weak (pa_cons pe_str (pa_str xs es h.2) rfl) fun σ H Q q => ?_
        exact ⟨q.1, q.2⟩
      · cases h1
/-- n = [..] -/
def g0B (n : Str) (c : List Expr → Bool) : Stmt → Bool
  | .Assign [.Name x _] (.List es _) _ => decide (x = n) && c es
  | _ => false
/-- n = n + [..] -/
def g1B (n : Str) (c : List Expr → Bool) : Stmt → Bool
  | .Assign [.Name x _] (.BinOp (.Name y _) .Add (.List es _) _) _ => decide (x = n) && decide (y = n) && c es
  | _ => false
theorem g0_ok (k : KX X a D oe sc) {n : Str} {i : Nat} {c : List Expr → Bool} {vs : List V} {st : Stmt} (hi : kN[i]? = some n) (hv : Loc sc n) (hc : ∀ es, c es = true → PA X es (itR a vs)) (hz : vs.length ≤ sizeLine) (h : g0B n c st = true) :
    PS X st (fun D σ H => σ[0]? = some (some (.ref a)) ∧ ∀ q H', Ext H H' → H' q = some (.lst vs) → D.nx (σ.set i (some (.ref q))) H') := by
  unfold g0B at h
  split at h
  · rename_i x p1 es p2 pos
    simp only [Bool.and_eq_true, decide_eq_true_eq] at h
    obtain ⟨rfl, h⟩ := h
    have nd : X.N.Nodup := by rw [k.N]; decide
    refine PS.weak (ps_asg (pe_lst (hc es h)) (pg_name (i := i) nd (by rw [k.N]; exact hi) (by rw [k.sc]; exact hv) (.inl (k.fn _)))) fun D σ H q => ?_
    exact ⟨q.1, hz, fun p hp => q.2 p _ (Ext.new hp) upd_same⟩
  · cases h
theorem g1_ok (k : KX X a D oe sc) {n : Str} {i : Nat} {c : List Expr → Bool} {vs : List V} {st : Stmt} (hi : kN[i]? = some n) (hv : Loc sc n) (hd : (n == ("__debug__" : Str)) = false) (hcd : (n == ("__classdict__" : Str)) = false) (hc : ∀ es, c es = true → PA X es (itR a vs)) (h : g1B n c st = true) :
    PS X st (fun D σ H => σ[0]? = some (some (.ref a)) ∧ ∃ l us, σ[i]? = some (some (.ref l)) ∧ H l = some (.lst us) ∧ us.length + vs.length ≤ sizeLine ∧ ∀ q H', Ext H H' → H' q = some (.lst (us ++ vs)) → D.nx (σ.set i (some (.ref q))) H') := by
  unfold g1B at h
  split at h
  · rename_i x p1 y p2 es p3 p4 pos
    simp only [Bool.and_eq_true, decide_eq_true_eq] at h
    obtain ⟨⟨rfl, rfl⟩, h⟩ := h
    have nd : X.N.Nodup := by rw [k.N]; decide
    refine PS.weak (ps_asg (pe_op op_catR (pe_var (i := i) (by rw [k.N]; exact hi) (by rw [k.sc]; exact hv.elim .inl fun z => .inr (.inl z)) hd hcd) (pe_lst (hc es h))) (pg_name (i := i) nd (by rw [k.N]; exact hi) (by rw [k.sc]; exact hv) (.inl (k.fn _)))) fun D σ H q => ?_
    obtain ⟨q0, l, us, q1, q2, q3, q⟩ := q
    refine ⟨_, q1, q0, by omega, fun p hp => ?_⟩
    refine ⟨l, p, us, vs, rfl, rfl, .inl (.inl ?_), .inl (.inl upd_same), q3, fun p2 hp2 => q p2 _ ((Ext.new hp).trans (Ext.new hp2)) upd_same⟩
    rw [upd_ne (ne_of_none q2 hp)]; exact q2
  · cases h
/-- the words whose turn is good -/
def selW : List Str → List Bool → List Str
  | w :: ws, b :: bs => if b then w :: selW ws bs else selW ws bs
  | _, _ => []
theorem selW_take : ∀ (ws : List Str) (bs : List Bool) (i : Nat) (w : Str) (b : Bool), ws[i]? = some w → bs[i]? = some b → selW (ws.take (i + 1)) (bs.take (i + 1)) = selW (ws.take i) (bs.take i) ++ (if b then [w] else [])
  | [], _, i, w, b, h, _ => by simp at h
  | w' :: ws, [], i, w, b, _, h => by simp at h
  | w' :: ws, b' :: bs, 0, w, b, h1, h2 => by
    simp at h1 h2; subst h1 h2
    simp [selW]
  | w' :: ws, b' :: bs, i + 1, w, b, h1, h2 => by
    simp only [List.getElem?_cons_succ] at h1 h2
    have := selW_take ws bs i w b h1 h2
    rw [List.take_succ_cons, List.take_succ_cons, List.take_succ_cons, List.take_succ_cons, selW, selW, this]
    cases b' <;> simp
theorem selW_len : ∀ (ws : List Str) (bs : List Bool), (selW ws bs).length ≤ ws.length
  | [], bs => by simp [selW]
  | w :: ws, [] => by simp [selW]
  | w :: ws, b :: bs => by
    have := selW_len ws bs
    rw [selW]
    split
    · simpa using this
    · simp only [List.length_cons]; omega
theorem selW_sum : ∀ (ws : List Str) (bs : List Bool), ((selW ws bs).map (·.length)).sum ≤ (ws.map (·.length)).sum
  | [], bs => by simp [selW]
  | w :: ws, [] => by simp [selW]
  | w :: ws, b :: bs => by
    have := selW_sum ws bs
    rw [selW]
    split
    · simpa using this
    · simp only [List.map_cons, List.sum_cons]; omega
def kOwn : List (Str × Nat) := [("word", 3), ("good", 4)]
def kretB (sc : Scope) : Stmt → Bool
  | .Return (some (.Call (.Attribute (.Constant (.str s) _ _) m ap) [.ListComp (.Name w1 _) [⟨.Tuple [.Name w2 _, .Name g1 _] _ _, .Call (.Name z _) [.Name ws _, .Name sm _] [] _, [.Name g2 _], 0⟩] scope _] [] cp)) _ =>
    decide (s = " ") && decide (m = "join") && decide (w1 = "word") && decide (w2 = "word") && decide (g1 = "good") && decide (g2 = "good") && decide (z = "zip") && decide (ws = "words") && decide (sm = "some") &&
      (ap.endLine == cp.line) && blkC kN sc scope kOwn && decide ((relS scope sc).names.lookup ("word" : Str) = some .local) && decide ((relS scope sc).names.lookup ("good" : Str) = some .local)
  | _ => false
theorem wipe34 (σ : L2.St) (u v : Option V) : wipe (((wipe σ [3, 4]).set 3 u).set 4 v) [3, 4] = wipe σ [3, 4] := by
  simp only [wipe]
  rw [List.set_set, List.set_set, List.set_comm (i := 3) (j := 4) _ _ (by decide), List.set_set, List.set_set]
theorem kret_ok (k : KX X a D oe sc) (hs : Vis sc "some") (hw : Vis sc "words") {st : Stmt} (h : kretB sc st = true) :
    PS X st (fun D σ H => σ.length = 5 ∧ ∃ lw ls ws bs, σ[2]? = some (some (.ref lw)) ∧ σ[1]? = some (some (.ref ls)) ∧ H lw = some (.lst (ws.map V.str)) ∧ H ls = some (.lst (bs.map V.bl)) ∧ ws.length = bs.length ∧ ws.length ≤ 1000 ∧ (ws.map (·.length)).sum ≤ 1000 ∧
      ∀ H', Ext H H' → D.rt (.str (Txt.join " " (selW ws bs))) H') := by
  unfold kretB at h
  split at h
  · rename_i s j1 p1 m ap w1 p2 w2 p3 g1 p4 kk p5 z p6 ws' p7 sm p8 p9 g2 p10 scope p11 cp p12
    simp only [Bool.and_eq_true, decide_eq_true_eq] at h
    obtain ⟨⟨⟨⟨⟨⟨⟨⟨⟨⟨⟨⟨rfl, rfl⟩, rfl⟩, rfl⟩, rfl⟩, rfl⟩, rfl⟩, rfl⟩, rfl⟩, hl⟩, hb⟩, h1⟩, h2⟩ := h
    have nd : X.N.Nodup := by rw [k.N]; decide
    have bo : BlkOk X.N X.env.scope scope kOwn := by rw [k.N, k.sc]; exact blkOk_by hb
    have rs : relabel scope X.env = relS scope sc := by rw [← k.sc]; rfl
    refine PS.weak (ps_ret (pe_join pe_str (pe_lcX (g := gTup X.K 2 (gCons (gName 3) (gCons (gName 4) gNil))) (tt := fun σ H Q => tVar 4 σ H fun x H' => ∃ k, TruV X.K x H' k ∧ Q k H') (te := tVar 3) k.hot nd
      (px_zip k.zip.1 k.zip.2 (pa_cons (pe_var (i := 2) (by rw [k.N]; rfl) (by rw [k.sc]; exact hw)) (pa_cons (pe_var (i := 1) (by rw [k.N]; rfl) (by rw [k.sc]; exact hs)) pa_nil))) bo
      (fun s H C cl fp hh => ?_) (fun s H C cl fp => ?_) (fun s H C cl fp => ?_)) (by rfl) (by rfl) hl)) fun D σ H q => ?_
    · have e1 : (X.blk s H scope (compEnvC scope cl C X.env) fp).env.scope.names.lookup ("word" : Str) = some .local := (congrArg (fun z : Scope => z.names.lookup ("word" : Str)) rs).trans h1
      have e2 : (X.blk s H scope (compEnvC scope cl C X.env) fp).env.scope.names.lookup ("good" : Str) = some .local := (congrArg (fun z : Scope => z.names.lookup ("good" : Str)) rs).trans h2
      exact pg_tupH hh (pgs_cons (pg_name (i := 3) nd (by show X.N[3]? = _; rw [k.N]; rfl) (.inl e1) (.inr e1)) (pgs_cons (pg_name (i := 4) nd (by show X.N[4]? = _; rw [k.N]; rfl) (.inl e2) (.inr e2)) pgs_nil))
    · have e2 : (X.blk s H scope (compEnvC scope cl C X.env) fp).env.scope.names.lookup ("good" : Str) = some .local := (congrArg (fun z : Scope => z.names.lookup ("good" : Str)) rs).trans h2
      exact pts_one (pt_truth (pe_var (i := 4) (by show X.N[4]? = _; rw [k.N]; rfl) (.inl e2)) fun _ => rfl)
    · have e1 : (X.blk s H scope (compEnvC scope cl C X.env) fp).env.scope.names.lookup ("word" : Str) = some .local := (congrArg (fun z : Scope => z.names.lookup ("word" : Str)) rs).trans h1
      exact pe_var (i := 3) (by show X.N[3]? = _; rw [k.N]; rfl) (.inl e1)
    · obtain ⟨hσ, lw, ls, ws, bs, s2, s1, q1, q2, ql, qz, qs, q⟩ := q
      have sm : sizeLine = 16777216 := sizeLine_eq
      refine ⟨⟨" ", rfl⟩, ?_⟩
      refine ⟨_, s2, _, s1, lw, ls, _, _, rfl, .inl (.inl q1), .inl (.inl q2), fun D' hD => ?_⟩
      refine ⟨fun i m H' => m = ws.length - i ∧ i ≤ ws.length ∧ Ext H H' ∧ H' D' = some (.lst ((selW (ws.take i) (bs.take i)).map V.str)), ⟨_, rfl, Nat.zero_le _, Ext.new hD, by rw [upd_same]; simp [selW]⟩, fun i m H1 ⟨w1, w2, w3, w4⟩ => ?_⟩
      have rw1 : SqL X.K H1 lw (ws.map V.str) := .inl (.inl (w3 _ _ q1))
      have rw2 : SqL X.K H1 ls (bs.map V.bl) := .inl (.inl (w3 _ _ q2))
      by_cases hi : i = ws.length
      · subst hi
        refine .inl ⟨⟨_, _, rw1, rw2, .inl (by simp)⟩, ?_⟩
        rw [List.take_length, ql, List.take_length] at w4
        refine ⟨" ", D', selW ws bs, rfl, rfl, .inl (.inl (.inl w4)), ?_, q H1 w3⟩
        have h1 := selW_len ws bs
        have h2 := selW_sum ws bs
        have h3 : (" " : Str).length = 1 := by decide
        rw [h3]
        omega
      · have lt : i < ws.length := by omega
        obtain ⟨x, hx⟩ : ∃ x, ws[i]? = some x := ⟨_, List.getElem?_eq_getElem lt⟩
        obtain ⟨b, hb⟩ : ∃ b, bs[i]? = some b := ⟨_, List.getElem?_eq_getElem (by omega)⟩
        refine .inr ⟨⟨_, _, .str x, .bl b, rw1, rw2, by rw [List.getElem?_map, hx]; rfl, by rw [List.getElem?_map, hb]; rfl⟩, fun H' => i + 1 ≤ ws.length ∧ Ext H H' ∧ H' D' = some (.lst ((selW (ws.take (i + 1)) (bs.take (i + 1))).map V.str)), fun H' n => ⟨ws.length - (i + 1), by omega, rfl, n⟩, fun v H2 y => ?_⟩
        obtain ⟨T, x', y', rfl, hT, rfl, hx', hy'⟩ := y
        have hx'' := hx' _ rw1
        have hy'' := hy' _ rw2
        rw [List.getElem?_map, hx] at hx''
        rw [List.getElem?_map, hb] at hy''
        cases hx''
        cases hy''
        have nT : D' ≠ T := fun z => by rw [z, hT] at w4; cases w4
        have lenW : (wipe σ (kOwn.map (·.2))).length = 5 := by rw [wipe_length]; exact hσ
        have e3 : (((wipe σ (kOwn.map (·.2))).set 3 (some (V.str x))).set 4 (some (V.bl b)))[3]? = some (some (V.str x)) := by
          rw [List.getElem?_set_ne (by decide), List.getElem?_set_self (by omega)]
        have e4 : (((wipe σ (kOwn.map (·.2))).set 3 (some (V.str x))).set 4 (some (V.bl b)))[4]? = some (some (V.bl b)) := List.getElem?_set_self (by rw [List.length_set]; omega)
        refine ⟨T, _, rfl, .inl (.inl upd_same), rfl, _, _, rfl, _, _, rfl, rfl, wipe34 σ _ _, ?_⟩
        refine ⟨_, e4, b, rfl, ?_⟩
        have w4' : upd H1 T (.tup [.str x, .bl b]) D' = some (.lst ((selW (ws.take i) (bs.take i)).map V.str)) := by rw [upd_ne nT]; exact w4
        have st := selW_take ws bs i x b hx hb
        have xE : Ext H (upd H1 T (.tup [.str x, .bl b])) := w3.trans (Ext.new hT)
        cases b with
        | false =>
          dsimp only
          rw [if_neg (by decide)]
          refine ⟨lt, xE, ?_⟩
          rw [w4', st]; simp
        | true =>
          dsimp only
          rw [if_pos rfl]
          refine ⟨_, e3, _, w4', ?_, lt, ?_, ?_⟩
          · have := selW_len (ws.take i) (bs.take i)
            rw [List.length_map]
            rw [List.length_take] at this
            omega
          · intro b o e
            have nb : b ≠ D' := fun z => by rw [z, hD] at e; cases e
            rw [upd_ne nb]; exact xE _ _ e
          · rw [upd_same, st]; simp
  · cases h
end
/-! ### the def -/
def kC1 : List Str := ["InvalidBook", "InvalidChange", "InvalidIndex"]
def kC2 : List Str := ["InvalidName", "InvalidNumber", "InvalidPart"]
def kC3 : List Str := ["InvalidSide", "InvalidStand", "InvalidText"]
def kC4 : List Str := ["InvalidWord", "NoText", "NothingToUndo"]
def kC5 : List Str := ["TooMany", "Unlike", "ValueError"]
def kW1 : List Str := ["InvalidBook", "InvalidChange", "InvalidIndex", "InvalidName", "InvalidNumber", "InvalidPart"]
def kW2 : List Str := ["InvalidSide", "InvalidStand", "InvalidText", "InvalidWord", "NoText", "NothingToUndo"]
def kW3 : List Str := ["TooMany", "Unlike", "+"]
def kCs : List Str := ["InvalidBook", "InvalidChange", "InvalidIndex", "InvalidName", "InvalidNumber", "InvalidPart", "InvalidSide", "InvalidStand", "InvalidText", "InvalidWord", "NoText", "NothingToUndo", "TooMany", "Unlike"]
def kGlB (sc : Scope) : Bool := (kCs ++ [("ValueError" : Str), "isinstance", "zip"]).all fun x => decide (sc.names.lookup x = some .globalImplicit)
def kindsB (sc : Scope) : List Stmt → Bool
  | [s1, s2, s3, s4, s5, s6, s7, s8, s9] => g0B "some" (isBs kC1) s1 && g1B "some" (isBs kC2) s2 && g1B "some" (isBs kC3) s3 && g1B "some" (isBs kC4) s4 && g1B "some" (isBs kC5) s5 &&
      g0B "words" (strBs kW1) s6 && g1B "words" (strBs kW2) s7 && g1B "words" (strBs kW3) s8 && kretB sc s9 && kGlB sc && decide (sc.names.lookup ("e" : Str) = some .local) && decide (sc.names.lookup ("some" : Str) = some .local) && decide (sc.names.lookup ("words" : Str) = some .local)
  | _ => false
/-- the classes that D is of -/
structure KindsOf (K : PySem.W.Frag) (mg : Str → Option Value) (D : Addr) (bs : List Bool) : Prop where
  len : bs.length = 14
  ec : ExcC K D
  own : ∀ p ∈ kCs.zip bs, ∃ C, mg p.1 = some (.ref C) ∧ PySem.W.kitOne K (.ref D) (.ref C) = some p.2
  ve : mg "ValueError" = none ∧ PySem.W.kitOne K (.ref D) (.type "ValueError") = some true
def kWords (bs : List Bool) : Str := Txt.join " " (selW (kW1 ++ kW2 ++ kW3) (bs ++ [true]))
def kSp (K : PySem.W.Frag) (mg : Str → Option Value) : SpP := fun p vs H Q _ => vs = [.ref p.1] ∧ ∃ D bs, Zc (.ref D) none p.2 ∧ (∃ vs, p.2.data = .fields vs) ∧ KindsOf K mg D bs ∧ ∀ H', Ext H H' → Q (.str (kWords bs)) H'
theorem ps_two {σ : L2.St} {i : Nat} {v : Option V} (h : σ.length = 5) (hi : i < 5) : (σ.set i v)[i]? = some v := List.getElem?_set_self (by omega)
theorem kinds_fn {CX : CXT} {P : Program} {w : World} {K : PySem.W.Frag} {mg : Str → Option Value} {base : Heap} {k : Nat} {f : Addr} {name qual : Str} {params : Arguments} {body : List Stmt} {scope : Scope} {dV kV doc pm cdv ct oc : Value} {an od : Option Addr}
    {osl : Array (Option Value)} (lk : K.lookup f = some ⟨oc, od, .func (PySem.W.fnOf name qual params body scope dV kV doc pm an cdv ct), osl⟩) (hcd : PySem.W.codeIn K cdv qual = true) (S : FnScope kN ["e"] scope) (chk : kindsB scope body = true) (hi : mg "isinstance" = none) (hz : mg "zip" = none) :
    FnP' P w K mg base CX (k + 1) f (PySem.W.fnOf name qual params body scope dV kV doc pm an cdv ct) ["e"] (kSp K mg) := by
  refine fn_ofP lk hcd S (fun p vs H Q E h => by rw [h.1]; rfl) fun A outer s H vs Q E pp hot hr h => ?_
  obtain ⟨rfl, D, bs, zc, fl, ko, q⟩ := h
  unfold kindsB at chk
  split at chk
  case h_2 => cases chk
  rename_i s1 s2 s3 s4 s5 s6 s7 s8 s9
  simp only [Bool.and_eq_true, decide_eq_true_eq] at chk
  obtain ⟨⟨⟨⟨⟨⟨⟨⟨⟨⟨⟨⟨c1, c2⟩, c3⟩, c4⟩, c5⟩, c6⟩, c7⟩, c8⟩, c9⟩, cg⟩, ve⟩, vs⟩, vw⟩ := chk
  have gl : ∀ x ∈ kCs ++ [("ValueError" : Str), "isinstance", "zip"], scope.names.lookup x = some .globalImplicit := fun x hx => of_decide_eq_true (List.all_eq_true.mp cg x hx)
  have kx : KX (cxH CX P w K mg base kN qual scope f cdv A outer s H E pp) pp.1 D pp.2 scope := ⟨rfl, rfl, fun _ => rfl, ⟨pp, hot, List.mem_singleton.mpr rfl⟩, List.mem_singleton.mpr rfl, ko.ec, zc, fl, ⟨gl _ (by simp), hi⟩, ⟨gl _ (by simp), hz⟩⟩
  obtain ⟨hl, ec, own, hv1, hv2⟩ := ko
  match bs, hl, own, q with
  | [b0, b1, b2, b3, b4, b5, b6, b7, b8, b9, b10, b11, b12, b13], _, own, q =>
  have isn : ∀ p ∈ kCs.zip [b0, b1, b2, b3, b4, b5, b6, b7, b8, b9, b10, b11, b12, b13], (p.1 == ("__debug__" : Str)) = false → p.1 ∈ kCs → IsN (cxH CX P w K mg base kN qual scope f cdv A outer s H E pp) D p.1 p.2 := fun p hp hd hm => by
    obtain ⟨C, h1, h2⟩ := own p hp
    exact ⟨.ref C, .ref C, fun u r => by cases r; rfl, h2, fun pos => pe_glob (gl _ (List.mem_append_left _ hm)) h1 rfl hd⟩
  have isv : IsN (cxH CX P w K mg base kN qual scope f cdv A outer s H E pp) D "ValueError" true :=
    ⟨.ty "ValueError", .type "ValueError", fun u r => by cases r; rfl, hv2, fun pos => pe_bltn (gl _ (by simp)) hv1 (by rfl) rfl⟩
  have i1 : ∀ p ∈ kC1.zip [b0, b1, b2], IsN (cxH CX P w K mg base kN qual scope f cdv A outer s H E pp) D p.1 p.2 := fun p hp => by
    simp only [kC1, List.zip_cons_cons, List.zip_nil_left, List.mem_cons, List.not_mem_nil, or_false] at hp
    rcases hp with rfl | rfl | rfl <;> exact isn _ (by simp [kCs]) (by dsimp only; decide) (by simp [kCs])
  have i2 : ∀ p ∈ kC2.zip [b3, b4, b5], IsN (cxH CX P w K mg base kN qual scope f cdv A outer s H E pp) D p.1 p.2 := fun p hp => by
    simp only [kC2, List.zip_cons_cons, List.zip_nil_left, List.mem_cons, List.not_mem_nil, or_false] at hp
    rcases hp with rfl | rfl | rfl <;> exact isn _ (by simp [kCs]) (by dsimp only; decide) (by simp [kCs])
  have i3 : ∀ p ∈ kC3.zip [b6, b7, b8], IsN (cxH CX P w K mg base kN qual scope f cdv A outer s H E pp) D p.1 p.2 := fun p hp => by
    simp only [kC3, List.zip_cons_cons, List.zip_nil_left, List.mem_cons, List.not_mem_nil, or_false] at hp
    rcases hp with rfl | rfl | rfl <;> exact isn _ (by simp [kCs]) (by dsimp only; decide) (by simp [kCs])
  have i4 : ∀ p ∈ kC4.zip [b9, b10, b11], IsN (cxH CX P w K mg base kN qual scope f cdv A outer s H E pp) D p.1 p.2 := fun p hp => by
    simp only [kC4, List.zip_cons_cons, List.zip_nil_left, List.mem_cons, List.not_mem_nil, or_false] at hp
    rcases hp with rfl | rfl | rfl <;> exact isn _ (by simp [kCs]) (by dsimp only; decide) (by simp [kCs])
  have i5 : ∀ p ∈ kC5.zip [b12, b13, true], IsN (cxH CX P w K mg base kN qual scope f cdv A outer s H E pp) D p.1 p.2 := fun p hp => by
    simp only [kC5, List.zip_cons_cons, List.zip_nil_left, List.mem_cons, List.not_mem_nil, or_false] at hp
    rcases hp with rfl | rfl | rfl
    · exact isn _ (by simp [kCs]) (by dsimp only; decide) (by simp [kCs])
    · exact isn _ (by simp [kCs]) (by dsimp only; decide) (by simp [kCs])
    · exact isv
  have sz : sizeLine = 16777216 := sizeLine_eq
  refine ⟨_, pss_cons (g0_ok kx (n := "some") (i := 1) rfl (.inl vs) (fun es h => pa_isN kx (.inl ve) kC1 _ es rfl i1 h) (by rw [sz]; simp) c1)
    (pss_cons (g1_ok kx (n := "some") (i := 1) rfl (.inl vs) (by decide) (by decide) (fun es h => pa_isN kx (.inl ve) kC2 _ es rfl i2 h) c2)
    (pss_cons (g1_ok kx (n := "some") (i := 1) rfl (.inl vs) (by decide) (by decide) (fun es h => pa_isN kx (.inl ve) kC3 _ es rfl i3 h) c3)
    (pss_cons (g1_ok kx (n := "some") (i := 1) rfl (.inl vs) (by decide) (by decide) (fun es h => pa_isN kx (.inl ve) kC4 _ es rfl i4 h) c4)
    (pss_cons (g1_ok kx (n := "some") (i := 1) rfl (.inl vs) (by decide) (by decide) (fun es h => pa_isN kx (.inl ve) kC5 _ es rfl i5 h) c5)
    (pss_cons (g0_ok kx (n := "words") (i := 2) rfl (.inl vw) (fun es h => pa_str kW1 es h) (by rw [sz]; decide) c6)
    (pss_cons (g1_ok kx (n := "words") (i := 2) rfl (.inl vw) (by decide) (by decide) (fun es h => pa_str kW2 es h) c7)
    (pss_cons (g1_ok kx (n := "words") (i := 2) rfl (.inl vw) (by decide) (by decide) (fun es h => pa_str kW3 es h) c8)
    (pss_one (kret_ok kx (.inl vs) (.inl vw) c9))))))))), ?_⟩
  refine ⟨rfl, fun q1 H1 x1 a1 => ?_⟩
  refine ⟨rfl, q1, _, rfl, a1, by rw [sz]; simp, fun q2 H2 x2 a2 => ?_⟩
  refine ⟨rfl, q2, _, rfl, a2, by rw [sz]; simp, fun q3 H3 x3 a3 => ?_⟩
  refine ⟨rfl, q3, _, rfl, a3, by rw [sz]; simp, fun q4 H4 x4 a4 => ?_⟩
  refine ⟨rfl, q4, _, rfl, a4, by rw [sz]; simp, fun q5 H5 x5 a5 => ?_⟩
  refine ⟨rfl, fun q6 H6 x6 a6 => ?_⟩
  refine ⟨rfl, q6, _, rfl, a6, by rw [sz]; simp [kW1, kW2], fun q7 H7 x7 a7 => ?_⟩
  refine ⟨rfl, q7, _, rfl, a7, by rw [sz]; simp [kW1, kW2, kW3], fun q8 H8 x8 a8 => ?_⟩
  refine ⟨rfl, q8, q5, kW1 ++ kW2 ++ kW3, [b0, b1, b2, b3, b4, b5, b6, b7, b8, b9, b10, b11, b12, b13, true], rfl, rfl, ?_, ?_, rfl, by decide, by decide, fun H' x => q _ ?_⟩
  · rw [a8]; simp
  · exact x8 _ _ (x7 _ _ (x6 _ _ (a5.trans (by simp))))
  · exact x1.trans (x2.trans (x3.trans (x4.trans (x5.trans (x6.trans (x7.trans (x8.trans x)))))))
end HotL
end
section
set_option Elab.async false
set_option linter.all false
set_option maxRecDepth 100000
set_option maxHeartbeats 2000000
/-! GF: try with two except .. as e, the first of another class; a lambda handed to a def that calls it (errors whose context is None). -/
namespace HotL
open PySem PySem.Spec PyProof.Rows L2 HotX L2H FF L2N LamX
def wAs2 (K : PySem.W.Frag) (c1 c : Value) (i : Nat) (ts : Addr → Value → Option Addr → TS) (Wout : WX) (D : Ends) : WX := fun cls d σ H => PySem.W.exmOne K cls c1 = some false ∧ wAs K c i ts Wout D cls d σ H
section
variable {X : Cx} {x n : Str} {c : Value} {i : Nat} {body suite : List Stmt} {b₀ : Stmt} {np pos pos' : Pos} {tb : WX → TS} {ts : Addr → Value → Option Addr → TS} {Wout : WX}
theorem ps_try_as2 {x1 : Str} {c1 : Value} {n1 : Option Str} {b₁ : Stmt} {suite1 : List Stmt} {np1 pos1 : Pos} (hc1 : Names X x1 c1) (hs : X.stack = X.env :: X.outer) (hf : X.env.frame = some X.env.locals) (hN : X.N.Nodup) (hi : X.N[i]? = some n) (hln : X.env.kindOf n = some .local) (hc : Names X x c) (tk : L2N.Takes X Wout)
    (hb : ∀ (W : WX) (pn : List (Addr × Obj)) (xe : Value → Shared → Prop), L2N.Takes (X.tr pn xe) W → PassesOwn (model X.prog X.w) X.A X.env xe → PSs (X.tr pn xe) body (tb W))
    (hsu : ∀ (a : Addr) (oe : Obj) (cls : Value) (d : Option Addr) (pn : List (Addr × Obj)), Zn cls d oe → (∃ vs, oe.data = .fields vs) → PSs (X.suite a ((a, oe) :: pn)) (b₀ :: suite) (ts a cls d)) :
    PS X (.Try body [.ExceptHandler (some (.Name x1 np1)) n1 (b₁ :: suite1) pos1, .ExceptHandler (some (.Name x np)) (some n) (b₀ :: suite) pos'] [] [] pos) (fun D σ H => tb (wAs2 X.K c1 c i ts Wout D) D σ H) := by
  refine ⟨fun pins s σ H D I h => ?_⟩
  have ok := I.ok
  have hfr : X.A.frames = some (X.env :: X.outer) := by rw [ok.frames, hs]
  have hloc : Loc X.env.scope n := .inl hln
  refine wpAny_Try_except ?_
  refine wpAny_mono ((hb (wAs2 X.K c1 c i ts Wout D) (X.pn ++ pins) (fun e s₁ => wpAny (model X.prog X.w) X.A (noteFrame e X.env) (fun _ s₂ => wpAny (model X.prog X.w) X.A (setFlight e none) (fun _ s₃ =>
    wpAny (model X.prog X.w) X.A (handleBy e X.env [.ExceptHandler (some (.Name x1 np1)) n1 (b₁ :: suite1) pos1, .ExceptHandler (some (.Name x np)) (some n) (b₀ :: suite) pos']) (SP X pins D) X.xe s₃) X.xe s₂) X.xe s₁) (fun u s' xx => ?_) PassesOwn.looking).run [] s σ H D (I.toTry _) h) (fun f s1 hsp => ?_) (fun e s1 he => he)
  · -- the catch
    obtain ⟨a, B, sI, pins', σ', H', cls, d, rfl, J', nb, up, sky, na, os, ag, hb0, b, hb1, hyes, hno⟩ := xx
    have J : Inv X pins σ' H' sI := J'.ofTry ok
    have sky' : Sky B (X.env :: X.outer) a (Zn cls d) X.env.locals s'.heap := by rw [← hs]; exact sky
    show wpAny (model X.prog X.w) X.A (noteFrame (.ref a) X.env) _ _ _
    refine Sky.land Zn.steady hfr hf sky' fun h3 fl3 up3 => ?_
    have J3 : Inv X pins σ' H' { s' with heap := h3 } := J.landed nb fl3.1 (up.trans up3) os ag
    obtain ⟨oe3, vs3, he3, hz3, hd3⟩ := fl3.there
    have notFr : ∀ {h : Heap} {o : Obj} {vs : Array Value}, h.FunFrames B (X.env :: X.outer) → h.get? a = some o → o.data = .fields vs → a ∉ frs (X.env :: X.outer) := fun {h o vs} ff e dd hm => by
      obtain ⟨_, o', e', hnf⟩ := ff.mem hm
      rw [e] at e'; cases e'
      exact hnf _ dd
    have nfr := notFr fl3.2.2.1 he3 hd3
    have nL : a ≠ X.env.locals := fun z => nfr (List.mem_filterMap.mpr ⟨X.env, List.mem_cons_self, by rw [hf, z]⟩)
    have nF : a ∉ X.fs := fun hm => by
      obtain ⟨e, he, q⟩ := List.mem_filterMap.mp hm
      exact nfr (List.mem_filterMap.mpr ⟨e, List.mem_cons_of_mem _ he, q⟩)
    have S3 := J3.suite he3 hd3 na nL nF
    refine wpAny_handleBy_cons (codeAny_handlers_test ?_) (by intro q; cases q)
    have LT : PySem.W.Looks (model X.prog X.w) h3 (typeOf (.ref a)) cls := fun A Q E s k q => wpAny_typeOf_ref (k _ _ he3) (by rw [hz3.1]; exact q)
    have LM0 := PySem.W.exm_one (M := model X.prog X.w) (J3.kIn) LT hb0
    have LM := PySem.W.exm_one (M := model X.prog X.w) (J3.kIn) LT hb1
    have test : ∀ {x : Str} {c : Value} {np : Pos}, Names X x c → ∀ {Q : Value → Shared → Prop} {E : Value → Shared → Prop}, Q c { s' with heap := h3 } → wpAny (model X.prog X.w) (X.A.mark (some (.ref a))) (eval (.Name x np) X.env) Q E { s' with heap := h3 } := fun {x c np} hc {Q E} q => by
      obtain ⟨hg, hdbg, hm | ⟨hm, hv, hnn⟩⟩ := hc
      · exact ld_glob (X := X.suite a ((a, oe3) :: (X.pn ++ pins))) S3 hg hm q hdbg
      · exact ld_blt (X := X.suite a ((a, oe3) :: (X.pn ++ pins))) S3 hg hm hv q hnn hdbg
    refine test hc1 (LM0.here ?_)
    refine wpAny_handleBy_cons (codeAny_handlers_test ?_) (by intro q; cases q)
    refine test hc (LM.here ?_)
    cases b with
    | true =>
      refine codeAny_handlers_suite_as ?_
      refine HandSPX.lands_againZ fl3 fun h4 fl4 up4 => ?_
      have J4 : Inv X pins σ' H' { s' with heap := h4 } := J.landed nb fl4.1 ((up.trans up3).trans up4) os ag
      obtain ⟨oe4, vs4, he4, hz4, hd4⟩ := fl4.there
      have S4 := J4.suite he4 hd4 na nL nF
      refine store_ok (X := X.suite a ((a, oe4) :: (X.pn ++ pins))) (v := .ref a) S4 hN hi hloc rfl (fun s5 S5 => ?_) (.inr hln)
      refine wpAny_mono ((hsu a oe4 cls d (X.pn ++ pins) hz4 ⟨_, hd4⟩).run [] s5 _ H' _ S5 (hyes rfl a na)) (fun f s6 hsp => ?_) (fun _ _ z => False.elim z)
      have end_ : ∀ {σ6 : L2.St} {H6 : Hp} {Q : Shared → Prop}, Inv (X.suite a ((a, oe4) :: (X.pn ++ pins))) [] σ6 H6 s6 → (∀ s7, Inv X pins (σ6.set i none) H6 s7 → Q s7) →
          wpAny (model X.prog X.w) X.A (do bindName X.env n .none; unbindBehindTheSuite X.env n pos') (fun _ s7 => Q s7) X.xe s6 := fun {σ6 H6 Q} S6 hq => gone_ok (S6.unsuite ok) hN hi hln hq
      cases f with
      | next =>
        obtain ⟨σ6, H6, S6, q6⟩ := hsp
        exact end_ S6 fun s7 J7 => ⟨_, _, J7, q6⟩
      | brk =>
        obtain ⟨σ6, H6, S6, q6⟩ := hsp
        exact end_ S6 fun s7 J7 => ⟨_, _, J7, q6⟩
      | cont =>
        obtain ⟨σ6, H6, S6, q6⟩ := hsp
        exact end_ S6 fun s7 J7 => ⟨_, _, J7, q6⟩
      | ret u =>
        obtain ⟨v6, σ6, H6, S6, r6, q6⟩ := hsp
        exact end_ S6 fun s7 J7 => ⟨_, _, _, J7, r6, q6⟩
    | false =>
      show wpAny _ X.A (handleBy (.ref a) X.env []) _ _ _
      refine wpAny_handleBy_nil ?_
      obtain ⟨k1, k2, k3, oe, vs, T, oT, ts', he, hz, hd, h1, hr⟩ := id fl3
      unfold PySem.passOn
      refine wpAny_bind (wpAny_field he hd h1 ?_)
      rw [if_neg (show ¬ ((Value.ref T == Value.none) = true) from by simp)]
      have fin : wpAny (model X.prog X.w) X.A (setFlight (.ref a) X.env.frame) (fun _ s4 => wpAny (model X.prog X.w) X.A (throw (.ref a) : Sem Flow) (SP X pins D) X.xe s4) X.xe { s' with heap := h3 } := by
        rw [hf]
        refine HandSPX.setFlight_upZ fl3 fun h4 hh4 up4 => wpAny_throw (tk _ _ ?_)
        exact ⟨a, B, sI, pins, σ', H', cls, d, rfl, J, nb, (up.trans up3).trans up4, .inr (.inr (by rw [hs]; exact hh4)), na, os, ag, hno rfl⟩
      first
        | exact wpAny_bind (wpAny_pure (wpAny_bind fin))
        | exact wpAny_bind fin
  · cases f with
    | next =>
      obtain ⟨σ', H', J', q⟩ := hsp
      exact wpAny_execs_nil ⟨σ', H', J'.ofTry ok, q⟩
    | brk =>
      obtain ⟨σ', H', J', q⟩ := hsp
      exact ⟨σ', H', J'.ofTry ok, q⟩
    | cont =>
      obtain ⟨σ', H', J', q⟩ := hsp
      exact ⟨σ', H', J'.ofTry ok, q⟩
    | ret u =>
      obtain ⟨v, σ', H', J', r, q⟩ := hsp
      exact ⟨v, σ', H', J'.ofTry ok, r, q⟩
end
def ExtD (q : Str) (H H' : Hp) : Prop := ExtN H H' ∧ (∀ b, H' b = none → H b = none) ∧ ∀ P, TabS H P q → TabS H' P q
def tLamN (P : Addr) (q : Str) (TT : (XK → Hp → VK → Prop) → Hp → VK → Prop) (t : XK → TE) : TE := fun σ H Q => TabS H P q ∧ ∀ H1, ExtD q H H1 → TT (fun E H' Q' => t E σ H' Q') H1 Q
section
variable {X : Cx} {pins : List (Addr × Obj)} {σ : L2.St} {H : Hp} {s : Shared}
/-- the lambda is made: its code object is new, or found in the table -/
theorem lam_makeN {c P : Addr} {params : Arguments} {body : Expr} {scope : Scope} {pos : Pos} {E : Value → Shared → Prop} {Q : Value → Shared → Prop} (I : Inv X pins σ H s) (TB : TabB X.base X.mg c P) (hcode : X.env.code = .ref c)
    (hT : TabS H P (X.env.qual ++ "<lambda>")) (hdef : defaultsOf params X.env = ([], [])) (hfree : ∀ y ∈ scope.names, y.2 = .free → ∃ c, X.env.cells.lookup y.1 = some c)
    (h : ∀ (f c' : Addr) (pm ctv : Value) (H1 : Hp) (s' : Shared), Inv X pins σ H1 s' → ExtD (X.env.qual ++ "<lambda>") H H1 →
      s'.heap.get? f = some (PySem.W.kla_obj "<lambda>" (X.env.qual ++ "<lambda>") params body scope (cloFrom X.env.cells scope.names []) pm c' ctv) → H1 f = none → f ∉ frs X.stack → H1 c' = some (CodeO c' (X.env.qual ++ "<lambda>")) → Q (.ref f) s') :
    wpAny (model X.prog X.w) X.A (eval (.Lambda params body scope pos) X.env) Q E s := by
  obtain ⟨ps, hP, ht, ha⟩ := hT
  refine PySem.W.kla_eval hdef ?_
  have bP : s.heap.BuiltinsAt X.mg P := TB.bm.keeps I.bk
  have hP' : s.heap.get? P = some { cls := .none, data := .fields ps } := I.hok P _ hP
  have nofr : ∀ f, s.heap.objs.size ≤ f → f ∉ frs X.stack := fun f hf z => by
    rcases List.mem_cons.mp (I.stkSub _ z) with e | e
    · have h1 := I.lt
      rw [← e] at h1
      exact Nat.lt_irrefl _ (Nat.lt_of_lt_of_le h1 hf)
    · exact I.nofs hf e
  cases hc : codeAmong pos ps.toList with
  | none =>
    refine PySem.W.kla_makeFunction (mg := X.mg) (c := c) (P := P) (ps := ps) (closure_ok hfree) I.ok.glob (I.mod.glob.keeps I.bk) hcode (TB.code.keeps I.bk) hP' ht hc TB.gP bP fun c' ctv h' tk hx hge hlt hrec htb => ?_
    obtain ⟨c2, oc, vs, t, e2, hoc, hd, hv⟩ := hrec
    cases e2
    have hsz : s.heap.objs.size ≤ h'.objs.size := Nat.le_trans hge (Nat.le_of_lt hlt)
    have nC : H c' = none := I.hok.fresh hge
    have I1 := inv_table (t' := tk) (more := #[rawInt pos.line, rawInt pos.col, .ref c']) (h' := h'.push (PySem.W.kla_obj "<lambda>" (X.env.qual ++ "<lambda>") params body scope (cloFrom X.env.cells scope.names []) ((X.mg "__name__").getD .none) c' ctv)) I hP
      (fun b o hb e => Heap.get?_push_of_some _ (hx b o hb e)) (Heap.get?_push_of_some _ htb) hge ⟨oc, vs, t, Heap.get?_push_of_some _ hoc, hd, hv⟩
    have hE : ExtN H (upd (upd H P (.tbl (ps ++ #[rawInt pos.line, rawInt pos.col, .ref c']))) c' (CodeO c' (X.env.qual ++ "<lambda>"))) := fun b o e n => by
      rw [upd_ne (ne_of_none e nC), upd_ne (fun z => n ps (Option.some.inj (e.symm.trans (by rw [z]; exact hP))))]
      exact e
    have hD : ∀ b, upd (upd H P (.tbl (ps ++ #[rawInt pos.line, rawInt pos.col, .ref c']))) c' (CodeO c' (X.env.qual ++ "<lambda>")) b = none → H b = none := fun b e => by
      by_cases h1 : b = c'
      · rw [h1]; exact nC
      · rw [upd_ne h1] at e
        by_cases h2 : b = P
        · rw [h2, upd_same] at e; cases e
        · rw [upd_ne h2] at e; exact e
    have eL : (ps ++ #[rawInt pos.line, rawInt pos.col, .ref c']).toList = ps.toList ++ [rawInt pos.line, rawInt pos.col, .ref c'] := by simp
    refine h h'.objs.size c' ((X.mg "__name__").getD .none) ctv _ _ I1 ⟨hE, hD, fun P' t' => ?_⟩ (Heap.get?_push_size _ rfl) ?_ (nofr _ hsz) upd_same
    · by_cases hb : P' = P
      · rw [hb]
        refine ⟨_, by rw [upd_ne (ne_of_none hP nC), upd_same], by rw [eL]; exact PySem.TriplesOk_snoc _ _ _ _ ht, fun p' cv hcv => ?_⟩
        rw [eL] at hcv
        rcases among_app _ ht hcv with z | z
        · obtain ⟨c0, e1, e2⟩ := ha p' cv z
          exact ⟨c0, e1, hE _ _ e2 codeO_ne⟩
        · exact ⟨c', z, upd_same⟩
      · obtain ⟨ps', a1, a2, a3⟩ := t'
        refine ⟨ps', by rw [upd_ne (ne_of_none a1 nC), upd_ne hb]; exact a1, a2, fun p' cv hcv => ?_⟩
        obtain ⟨c0, e1, e2⟩ := a3 p' cv hcv
        exact ⟨c0, e1, hE _ _ e2 codeO_ne⟩
    · have n1 : h'.objs.size ≠ c' := Nat.ne_of_gt hlt
      have n2 : h'.objs.size ≠ P := Nat.ne_of_gt (Nat.lt_of_lt_of_le (Heap.lt_size hP') hsz)
      rw [upd_ne n1, upd_ne n2]
      exact I.hok.fresh hsz
  | some cv =>
    obtain ⟨c', e, hco⟩ := ha pos cv hc
    subst e
    refine PySem.W.kla_makeFunctionHit (mg := X.mg) (c := c) (P := P) (ps := ps) (closure_ok hfree) I.ok.glob (I.mod.glob.keeps I.bk) hcode (TB.code.keeps I.bk) hP' ht hc bP fun ctv h' tk hx hsz => ?_
    have I1 : Inv X pins σ H { s with heap := h'.push (PySem.W.kla_obj "<lambda>" (X.env.qual ++ "<lambda>") params body scope (cloFrom X.env.cells scope.names []) ((X.mg "__name__").getD .none) c' ctv), toks := tk } := I.kept fun b o e => Heap.get?_push_of_some _ (hx b o e)
    exact h h'.objs.size c' ((X.mg "__name__").getD .none) ctv H _ I1 ⟨ExtN.refl H, fun _ z => z, fun _ z => z⟩ (Heap.get?_push_size _ rfl) (I.hok.fresh hsz) (nofr _ hsz) hco
end
/-- the context of the lambda's body, entered at s from the frames outer -/
def lamCxN (X : Cx) (A : Around) (outer : List Env) (s : Shared) (H : Hp) (E : XK) (scope : Scope) (f c' : Addr) : Cx where
  prog := X.prog
  w := X.w
  K := X.K
  mg := X.mg
  base := X.base
  A := A.deeper (lamEnv X scope s.heap.objs.size f c')
  N := X.N
  s_0 := s
  H_0 := H
  env := lamEnv X scope s.heap.objs.size f c'
  outer := outer
  stack := lamEnv X scope s.heap.objs.size f c' :: outer
  ex := []
  fn := fun _ => false
  calm := true
  pn := []
  xe := fun e s' => wpAny (model X.prog X.w) (A.deeper (lamEnv X scope s.heap.objs.size f c')) (leaving (lamEnv X scope s.heap.objs.size f c') e) (fun _ s'' => L2N.CX X.prog X.w outer H s E e s'') (fun e' s'' => L2N.CX X.prog X.w outer H s E e' s'') s'
section
variable {X : Cx} {pins : List (Addr × Obj)} {σ : L2.St} {H HZ : Hp} {s s1 : Shared}
theorem lam_startN {A : Around} {outer : List Env} {E : XK} {scope : Scope} {f c' : Addr} {h₁ : Heap} {tk : Nat} (I : Inv X pins σ H s) (L : LamS X.env.scope scope) (e0 : Env0 X.prog X.w X.K X.mg X.base A outer s1 HZ) (hd : A.handled = none)
    (un : Un (frs X.stack) [] H HZ s.heap s1.heap) (hns : h₁.Ns s1.heap.objs.size fun y => ([] : List (Str × Value)).reverse.lookup y) (kp : ∀ b o, s1.heap.get? b = some o → h₁.get? b = some o) :
    Inv (lamCxN X A outer s1 HZ E scope f c') [] σ HZ { s1 with heap := h₁, toks := tk } := by
  have hfree := L.has I.ok
  have cm : ∀ {y c}, (cloFrom X.env.cells scope.names []).lookup y = some c → X.env.cells.lookup y = some c := fun {y c} e => by
    rcases cloFrom_mem (PySem.mem_of_lookup e) with hm | ⟨h1, h2⟩
    · cases hm
    · obtain ⟨c1, hc⟩ := hfree _ h1 rfl
      have hc : X.env.cells.lookup y = some c1 := hc
      have e2 : c = c1 := by
        rw [h2, hc] <;> rfl
      rw [e2]
      exact hc
  have look : ∀ {y}, scope.names.lookup y = some .free → ∃ c, (cloFrom X.env.cells scope.names []).lookup y = some c := fun {y} hl => by
    have hy : (y, NameKind.free) ∈ scope.names := PySem.mem_of_lookup hl
    exact mem_lookup (cloFrom_has (cells := X.env.cells) (acc := []) hy)
  have cellK : ∀ {c : Addr} {v : Option Value}, H c = none → s.heap.IsCell c v → h₁.IsCell c v := fun {c v} n ⟨o, ho, hd⟩ => by
    obtain ⟨sl, q⟩ := un.any ho n (by simp)
    exact ⟨_, kp _ _ q, hd⟩
  have noA : ∀ b : Addr, b ∉ (lamCxN X A outer s1 HZ E scope f c').ex := fun b z => absurd (show b ∈ ([] : List Addr) from z) (by simp)
  refine ⟨⟨e0.mod, L.kind, rfl, rfl, Nat.le_refl _, fun y z c e1 e2 => I.ok.inj y z c (cm e1) (cm e2), fun y hy => ?_, fun y c z _ => ?_, fun _ => hd, Around.frames_deeper e0.frames, .inr ⟨rfl, rfl⟩, fun b z => absurd z (noA b), e0.bs, e0.bsz, fun b _ _ => noA b,
      fun b z => absurd z (noA b), e0.funs, e0.frf⟩,
    rfl, e0.bare, Un.kept kp, ⟨_, hns, fun i y v e1 e2 e3 => ?_⟩, fun y c e => ?_, e0.hok.fresh (Nat.le_refl _), fun y c e => ?_, fun q hq => absurd (show q ∈ ([] : List (Addr × Obj)) ++ [] from hq) (by simp), e0.hok.kept kp, I.len⟩
  · have hy : scope.names.lookup y = some .cell ∨ scope.names.lookup y = some .free := hy
    rcases hy with hy | hy
    · exact absurd rfl (L.own _ (PySem.mem_of_lookup hy)).2
    · exact look hy
  · have z : false = true := z
    cases z
  · have e3 : Vis scope y := e3
    rcases e3 with k | k | k
    · exact absurd rfl (L.own _ (PySem.mem_of_lookup k)).1
    · exact absurd rfl (L.own _ (PySem.mem_of_lookup k)).2
    · obtain ⟨m, hn, hl⟩ := I.loc
      have hvis : Vis X.env.scope y := (L.free _ (PySem.mem_of_lookup k) rfl).elim (fun k => .inr (.inl k)) (fun k => .inr (.inr k))
      obtain ⟨w', r, q⟩ := hl i y v e1 e2 hvis
      obtain ⟨c2, h2⟩ := look k
      refine ⟨w', r, .inr ⟨.inr k, c2, h2, ?_⟩⟩
      have c1 := cm h2
      rcases q with ⟨k', _⟩ | ⟨_, c3, e', z⟩
      · have k' : X.env.scope.names.lookup y = some .local := k'
        rcases L.free _ (PySem.mem_of_lookup k) rfl with k2 | k2 <;> rw [show X.env.scope.names.lookup y = _ from k2] at k' <;> cases k'
      · rw [c1] at e'
        cases e'
        exact cellK (I.freeC y _ c1) z
  · obtain ⟨w', z⟩ := I.cell y c (cm e)
    exact ⟨w', cellK (I.freeC y c (cm e)) z⟩
  · obtain ⟨v, o, ho, hd⟩ := I.cell y c (cm e)
    exact un.free c o ho (I.freeC y c (cm e)) (by simp)
/-- x(), in the def that got the lambda: Z is that def's context, entered at s -/
theorem pe_actN {CXg : CXT} {Eg : XK} {Ng : List Str} {qg : Str} {sg : Scope} {g f c' : Addr} {cdg pm ctv : Value} {params : Arguments} {body : Expr} {scope : Scope} {k i : Nat} {a : Str} {pn : List (Addr × Obj)} {xe : Value → Shared → Prop} {W : WX} {tb : XK → TE} {p1 p2 : Pos}
    (I : Inv X pins σ H s) (L : LamS X.env.scope scope) (hf : s.heap.get? f = some (PySem.W.kla_obj "<lambda>" (X.env.qual ++ "<lambda>") params body scope (cloFrom X.env.cells scope.names []) pm c' ctv)) (hfn : H f = none) (hfr : f ∉ frs X.stack)
    (hbind : bindArgs (PySem.W.kla_fn "<lambda>" (X.env.qual ++ "<lambda>") params body scope (cloFrom X.env.cells scope.names []) pm (.ref c') ctv) ⟨[], []⟩ = pure [])
    (tk : L2N.Takes ((cxOf CXg X.prog X.w X.K X.mg X.base Ng qg sg g cdg X.A X.stack s H Eg).tr pn xe) W) (hr : Room (k + 1) (X.A.deeper (envOfC qg sg s.heap.objs.size g cdg)))
    (hbody : ∀ (A : Around) (outer : List Env) (s : Shared) (H : Hp) (E : XK), Room k (A.deeper (lamEnv X scope s.heap.objs.size f c')) → PE (lamCxN X A outer s H E scope f c') body (tb E))
    (hN : Ng[i]? = some a) (hv : Vis sg a) (hd : (a == ("__debug__" : Str)) = false := by decide) (hcd : (a == ("__classdict__" : Str)) = false := by decide) :
    PE ((cxOf CXg X.prog X.w X.K X.mg X.base Ng qg sg g cdg X.A X.stack s H Eg).tr pn xe) (.Call (.Name a p1) [] [] p2)
      (fun σZ HZ Q => σZ[i]? = some (some (.ref f)) ∧ HZ c' = some (CodeO c' (X.env.qual ++ "<lambda>")) ∧ tb (WE W σZ) σ HZ Q) := by
  refine ⟨fun pinsZ sZ σZ HZ Q IZ h => ?_⟩
  obtain ⟨hs, hc, ht⟩ := h
  refine wpAny_Call_Name_kw (thn ((pe_var (pos := p1) (i := i) hN hv hd hcd).run pinsZ sZ σZ HZ (fun v H1 => v = .ref f ∧ H1 = HZ) IZ ⟨.ref f, hs, rfl, rfl⟩) fun u s1 ⟨v, H1, I1, r1, q1⟩ => ?_)
  obtain ⟨ev, eH⟩ := q1
  subst ev
  rw [eH] at I1
  obtain rfl : u = Value.ref f := r1
  have of1 : s1.heap.get? f = some (PySem.W.kla_obj "<lambda>" (X.env.qual ++ "<lambda>") params body scope (cloFrom X.env.cells scope.names []) pm c' ctv) := I1.base.keep f _ hf hfn hfr (fun z => nomatch (show f ∈ ([] : List Addr) from z))
  refine PySem.W.callWith_F0 ⟨_, _, _, _, of1⟩ ?_
  have un : Un (frs X.stack) [] H HZ s.heap s1.heap := I1.base
  obtain ⟨⟨oc, vs, t, hoc, hdc, hvc⟩, _, _⟩ := I1.hok c' _ hc
  have rc : codeAny (model X.prog X.w) (X.A.deeper (envOfC qg sg s.heap.objs.size g cdg)) (.call (.ref f) ⟨[], []⟩) (CR (L2N.CX X.prog X.w) (envOfC qg sg s.heap.objs.size g cdg :: X.stack) X.prog X.w HZ s1 Q (WE W σZ)) s1 := by
    refine PySem.W.kla_callFunE hr.depth of1 rfl L.co L.gen rfl ⟨c', oc, vs, t, rfl, hoc, hdc, hvc⟩ ?_
    rw [hbind]
    refine wpAny_pure (wpAny_newFunctionEnv (fun y hy => (L.own y hy).2) (fun y hy => absurd hy (by simp)) (fun h₁ hns hsb => ⟨I1.nolimit.fresh _ hsb, ?_⟩) L.kind)
    show codeAny _ _ (.expr body (lamEnv X scope s1.heap.objs.size f c')) _ _
    have kp : ∀ b o, s1.heap.get? b = some o → h₁.get? b = some o := fun b o e => hsb.extBut b o (Nat.ne_of_lt (Heap.lt_size e)) (Heap.get?_push_of_some _ e)
    have J : Inv (lamCxN X (X.A.deeper (envOfC qg sg s.heap.objs.size g cdg)) (envOfC qg sg s.heap.objs.size g cdg :: X.stack) s1 HZ (WE W σZ) scope f c') [] σ HZ { s1 with heap := h₁, toks := s1.toks + ([] : List (Str × Value)).length } :=
      lam_startN I L I1.env0 hr.hd un hns kp
    refine PySem.W.kla_codeExpr (wpAny_mono ((hbody _ _ s1 HZ (WE W σZ) (hr.deeper _)).run [] _ _ HZ Q J ht) (fun v s' hq => ?_) fun e s' hq => hq)
    obtain ⟨w', H', J', rv, q⟩ := hq
    exact ⟨w', H', J'.os, J'.bare, J'.base, J'.hok, rv, q⟩
  have hx := L2N.passAt tk σZ
  refine wpAny_call (codeAny_mono rc fun r s' hq => ?_)
  cases r with
  | error e => exact hx pinsZ HZ s1 e s' I1 hq
  | ok fl =>
    cases fl with
    | ret u => exact I1.after hq
    | next => exact False.elim hq
    | brk => exact False.elim hq
    | cont => exact False.elim hq
end
/-- the def that calls what it got: a calls it; TT: what it makes of the lambda's reading -/
def GivesToN (X : Cx) (k : Nat) (Ng : List Str) (x : Str) (sg : Scope) (g : Addr) (cdg : Value) (bg : List Stmt) (a : Str) (q : Str) (TT : (XK → Hp → VK → Prop) → Hp → VK → Prop) : Prop :=
  ∀ (f c' : Addr) (s : Shared) (H : Hp) (Q : VK) (tl : XK → Hp → VK → Prop), Room k (X.A.deeper (envOfC x sg s.heap.objs.size g cdg)) →
    (∀ (W : WX) (pn : List (Addr × Obj)) (xe : Value → Shared → Prop) (p1 p2 : Pos), L2N.Takes ((cxOf C8.CX0 X.prog X.w X.K X.mg X.base Ng x sg g cdg X.A X.stack s H C8.E0).tr pn xe) W →
      PE ((cxOf C8.CX0 X.prog X.w X.K X.mg X.base Ng x sg g cdg X.A X.stack s H C8.E0).tr pn xe) (.Call (.Name a p1) [] [] p2) (fun σZ HZ Q => σZ[0]? = some (some (.ref f)) ∧ HZ c' = some (CodeO c' q) ∧ tl (WE W σZ) HZ Q)) → (∀ E E' H Q Q', (∀ cls d H', E cls d H' → E' cls d H') → (∀ v H', Q v H' → Q' v H') → tl E H Q → tl E' H Q') →
    H c' = some (CodeO c' q) → TT tl H Q →
    ∃ t, PSs (cxOf C8.CX0 X.prog X.w X.K X.mg X.base Ng x sg g cdg X.A X.stack s H C8.E0).nox bg t ∧ t { nx := fun _ H' => Q .non H', rt := Q } (L2.start Ng [.ref f]) H
section
variable {X : Cx}
/-- x(lambda: body) -/
theorem pe_lamcallN {TT : (XK → Hp → VK → Prop) → Hp → VK → Prop} {x a : Str} {g c P : Addr} {k : Nat} {pg : Arguments} {bg : List Stmt} {sg : Scope} {dV kV doc pm cdv ct oc : Value} {an od : Option Addr} {osl : Array (Option Value)} {Ng : List Str}
    {params : Arguments} {body : Expr} {scope : Scope} {t : XK → TE} {p lpos pos : Pos} (hg : Gl X x) (hm : X.mg x = some (.ref g)) (hk : PySem.W.keepIn X.K (.ref g) = true)
    (lk : X.K.lookup g = some ⟨oc, od, .func (PySem.W.fnOf x x pg bg sg dV kV doc pm an cdv ct), osl⟩) (hcg : PySem.W.codeIn X.K cdv x = true) (hb : L2.Binds X.K (PySem.W.fnOf x x pg bg sg dV kV doc pm an cdv ct) [a] []) (Sg : FnScope Ng [a] sg) (hNg : Ng[0]? = some a) (hva : Vis sg a)
    (hG : GivesToN X (k + 1) Ng x sg g cdv bg a (X.env.qual ++ "<lambda>") TT)
    (TB : TabB X.base X.mg c P) (hcode : X.env.code = .ref c) (hr : Room (k + 2) X.A) (L : LamS X.env.scope scope) (hdef : defaultsOf params X.env = ([], []))
    (hbind : ∀ (q : Str) (cl : List (Str × Addr)) (pm cv ctv : Value), bindArgs (PySem.W.kla_fn "<lambda>" q params body scope cl pm cv ctv) ⟨[], []⟩ = pure [])
    (hmono : ∀ (E E' : XK) (σ : L2.St) (H : Hp) (Q Q' : VK), (∀ cls d H', E cls d H' → E' cls d H') → (∀ v H', Q v H' → Q' v H') → t E σ H Q → t E' σ H Q')
    (hbody : ∀ (A : Around) (outer : List Env) (s : Shared) (H : Hp) (E : XK) (f c' : Addr), Room k (A.deeper (lamEnv X scope s.heap.objs.size f c')) → PE (lamCxN X A outer s H E scope f c') body (t E))
    (hdb : (x == ("__debug__" : Str)) = false := by decide) (hd : (a == ("__debug__" : Str)) = false := by decide) (hcd : (a == ("__classdict__" : Str)) = false := by decide) :
    PE X (.Call (.Name x p) [.Lambda params body scope lpos] [] pos) (tLamN P (X.env.qual ++ "<lambda>") TT t) := by
  refine ⟨fun pins s σ H Q I h => ?_⟩
  obtain ⟨hT, h⟩ := h
  refine wpAny_Call_Name_kw (ld_glob I hg hm ?_ hdb)
  refine PySem.W.callWith_K (h₀ := X.base) I.ok.mod.kin hk ?_ (by rfl) (by rfl)
  show wpAny _ _ (spliced ((false, eval (.Lambda params body scope lpos) X.env) :: backTo pos (starEach [] X.env))) _ _ s
  refine Calls.spliced_cons (lam_makeN I TB hcode hT hdef (L.has I.ok) fun f c' pm' ctv H1 s' I1 eN hf hfn hfr hco => ?_)
  refine Calls.spliced_nil ⟨I1.kIn, ?_⟩
  have rc : codeAny (model X.prog X.w) X.A (.call (.ref g) ⟨[.ref f], []⟩) (CR C8.CX0 X.stack X.prog X.w H1 s' Q C8.E0) s' := by
    refine run_ofS (N := Ng) (ps := [a]) (us := [.ref f]) (vs := [.ref f]) lk hcg Sg hr I1.env0 (hb s' [.ref f] I1.kIn rfl) (.cons rfl .nil) rfl fun hr' => ?_
    obtain ⟨t', ht', hq'⟩ := hG f c' s' H1 Q (fun E H' Q' => t E σ H' Q') hr' (fun W pn xe p1 p2 tk => pe_actN (i := 0) I1 L hf hfn hfr (hbind _ _ _ _ _) tk hr' (fun A outer s H E hr2 => hbody A outer s H E f c' hr2) hNg hva hd hcd) (fun E E' H Q Q' hE hQ q => hmono E E' σ H Q Q' hE hQ q) hco (h H1 eN)
    exact ⟨t', ht'.nox, hq'⟩
  refine wpAny_call (codeAny_mono rc fun r s2 hq => ?_)
  cases r with
  | error e => exact (show False from hq).elim
  | ok fl =>
    cases fl with
    | ret u => exact I1.after hq
    | next => exact False.elim hq
    | brk => exact False.elim hq
    | cont => exact False.elim hq
end

/-! ### the def that calls what it got -/
def cN : List Str := ["call_so", "found", "e"]
def cGlB (sc : Scope) : Bool := [("TooMany" : Str), "FaceError", "_law_kinds"].all fun x => decide (sc.names.lookup x = some .globalImplicit)
def cLoB (sc : Scope) : Bool := [("call_so" : Str), "found", "e"].all fun x => decide (sc.names.lookup x = some .local)
def callB (sc : Scope) : List Stmt → Bool
  | [.Assign [.Name f1 _] (.Constant .none _ _) _, .Try [.Assign [.Name f2 _] (.Tuple [.Constant (.str t) _ _, .Call (.Name cs _) [] [] _] _ _) _] [.ExceptHandler (some (.Name tm _)) _ (_ :: _) _,
      .ExceptHandler (some (.Name fe _)) (some e1) [.Assign [.Name f3 _] (.Tuple [.Call (.Name lk _) [.Name e2 _] [] _] _ _) _] _] [] [] _, .Return (some (.Name f4 _)) _] =>
    decide (f1 = "found") && decide (f2 = "found") && decide (f3 = "found") && decide (f4 = "found") && decide (t = "told") && decide (cs = "call_so") && decide (tm = "TooMany") && decide (fe = "FaceError") && decide (e1 = "e") && decide (e2 = "e") && decide (lk = "_law_kinds") && cGlB sc && cLoB sc
  | _ => false
/-- what it makes of the lambda's reading -/
def TTk (K : PySem.W.Frag) (mg : Str → Option Value) (TM FE : Addr) : (XK → Hp → VK → Prop) → Hp → VK → Prop := fun tl H Q =>
  tl (fun cls d H' => ∃ D bs, cls = .ref D ∧ d = none ∧ PySem.W.exmOne K cls (.ref TM) = some false ∧ PySem.W.exmOne K cls (.ref FE) = some true ∧ KindsOf K mg D bs ∧ ∀ p H'', Ext H' H'' → H'' p = some (.tup [.str (kWords bs)]) → Q (.ref p) H'') H
    fun v H' => ∀ p H'', Ext H' H'' → H'' p = some (.tup [.str "told", v]) → Q (.ref p) H''
theorem call_body {Z : Cx} {sg : Scope} {f c' TM FE fk : Addr} {q : Str} {bg : List Stmt} {fd : FuncData} {tl : XK → Hp → VK → Prop} (chk : callB sg bg = true) (zN : Z.N = cN) (zS : Z.env.scope = sg) (zF : ∀ x, Z.fn x = true) (hs : Z.stack = Z.env :: Z.outer) (hf : Z.env.frame = some Z.env.locals)
    (hr : ∀ a : Addr, RoomH 1 (Z.A.mark (some (.ref a)))) (hTM : Z.mg "TooMany" = some (.ref TM)) (hFE : Z.mg "FaceError" = some (.ref FE)) (hk : Z.mg "_law_kinds" = some (.ref fk)) (kp : PySem.W.keepIn Z.K (.ref fk) = true)
    (hb : L2.Binds Z.K fd ["e"] []) (Fk : FnP' Z.prog Z.w Z.K Z.mg Z.base C8.CX0 1 fk fd ["e"] (kSp Z.K Z.mg))
    (act : ∀ (W : WX) (pn : List (Addr × Obj)) (xe : Value → Shared → Prop) (p1 p2 : Pos), L2N.Takes (Z.tr pn xe) W →
      PE (Z.tr pn xe) (.Call (.Name "call_so" p1) [] [] p2) (fun σZ HZ Q => σZ[0]? = some (some (.ref f)) ∧ HZ c' = some (CodeO c' q) ∧ tl (WE W σZ) HZ Q)) (mono : ∀ E E' H Q Q', (∀ cls d H', E cls d H' → E' cls d H') → (∀ v H', Q v H' → Q' v H') → tl E H Q → tl E' H Q') :
    PSs Z bg (fun D σ H => σ.length = 3 ∧ σ[0]? = some (some (.ref f)) ∧ H c' = some (CodeO c' q) ∧ TTk Z.K Z.mg TM FE tl H D.rt) := by
  unfold callB at chk
  split at chk
  case h_2 => cases chk
  simp only [Bool.and_eq_true, decide_eq_true_eq] at chk
  obtain ⟨⟨⟨⟨⟨⟨⟨⟨⟨⟨⟨⟨rfl, rfl⟩, rfl⟩, rfl⟩, rfl⟩, rfl⟩, rfl⟩, rfl⟩, rfl⟩, rfl⟩, rfl⟩, cg⟩, cl⟩ := chk
  have gl : ∀ x ∈ [("TooMany" : Str), "FaceError", "_law_kinds"], sg.names.lookup x = some .globalImplicit := fun x hx => of_decide_eq_true (List.all_eq_true.mp cg x hx)
  have lo : ∀ x ∈ [("call_so" : Str), "found", "e"], sg.names.lookup x = some .local := fun x hx => of_decide_eq_true (List.all_eq_true.mp cl x hx)
  have v1 : sg.names.lookup ("call_so" : Str) = some .local := lo _ (by simp)
  have v2 : sg.names.lookup ("found" : Str) = some .local := lo _ (by simp)
  have v3 : sg.names.lookup ("e" : Str) = some .local := lo _ (by simp)
  have nd : Z.N.Nodup := by rw [zN]; decide
  have g1 : Gl Z "TooMany" := by show Z.env.scope.names.lookup _ = _; rw [zS]; exact gl _ (by simp)
  have g2 : Gl Z "FaceError" := by show Z.env.scope.names.lookup _ = _; rw [zS]; exact gl _ (by simp)
  have g3 : Gl Z "_law_kinds" := by show Z.env.scope.names.lookup _ = _; rw [zS]; exact gl _ (by simp)
  refine PSs.weak (pss_cons (ps_asg pe_non (pg_name (i := 1) nd (by rw [zN]; rfl) (.inl (by rw [zS]; exact v2)) (.inl (zF _))))
    (pss_cons (ps_try_as2 (X := Z) (i := 2) (Wout := fun _ _ _ _ => False)
      (tb := fun W D σ H => σ[0]? = some (some (.ref f)) ∧ H c' = some (CodeO c' q) ∧ tl (WE W σ) H fun v H' => ∀ p H'', Ext H' H'' → H'' p = some (.tup [.str "told", v]) → D.nx (σ.set 1 (some (.ref p))) H'')
      (ts := fun a cls d D σ H => ∃ Dc bs, cls = .ref Dc ∧ d = none ∧ KindsOf Z.K Z.mg Dc bs ∧ σ[2]? = some (some (.ref a)) ∧ ∀ p H', Ext H H' → H' p = some (.tup [.str (kWords bs)]) → D.nx (σ.set 1 (some (.ref p))) H')
      ⟨g1, by decide, .inl hTM⟩ hs hf nd (by rw [zN]; rfl) (by show Z.env.scope.names.lookup _ = _; rw [zS]; exact v3) ⟨g2, by decide, .inl hFE⟩ (fun u s' x => ?_) (fun W pn xe tk hp => ?_) (fun a oe cls d pn hz hfl => ?_))
    (pss_one (ps_ret (pe_var (i := 1) (by rw [zN]; rfl) (by rw [zS]; exact .inl v2)))))) fun D σ H q => ?_
  · obtain ⟨_, _, _, _, _, _, _, _, _, _, _, _, _, _, _, _, z⟩ := x
    exact z.elim
  · have hp := act W pn xe
    refine pss_one (PS.weak (ps_asg (pe_tup (pa_cons pe_str (pa_cons (hp _ _ tk) pa_nil rfl) rfl)) (pg_name (i := 1) nd (by show Z.N[1]? = _; rw [zN]; rfl) (.inl (by show Z.env.scope.names.lookup _ = _; rw [zS]; exact v2)) (.inl (zF _)))) fun D σ H q => ?_)
    obtain ⟨q1, q2, q3⟩ := q
    refine ⟨q1, q2, mono _ _ _ _ _ (fun _ _ _ h => h) (fun v H' h => ⟨by rw [sizeLine_eq]; simp, fun p hp => h p _ (Ext.new hp) upd_same⟩) q3⟩
  · have hot : Hot1 (Z.suite a ((a, oe) :: pn)).A (a, oe) := by
      obtain ⟨vs, hv⟩ := hfl
      exact ⟨rfl, vs, hv, hz.2.2 vs hv⟩
    refine pss_one (PS.weak (ps_asg (pe_tup (pa_cons (pe_callP (X := Z.suite a ((a, oe) :: pn)) (E := C8.E0) (p := (a, oe)) Fk (hr a) hot List.mem_cons_self g3 hk kp hb (fun _ _ _ _ _ _ _ z => z.elim) (pa_cons (pe_var (i := 2) (by show Z.N[2]? = _; rw [zN]; rfl) (by show Vis Z.env.scope _; rw [zS]; exact .inl v3)) pa_nil)) pa_nil rfl)) (pg_name (i := 1) nd (by show Z.N[1]? = _; rw [zN]; rfl) (.inl (by show Z.env.scope.names.lookup _ = _; rw [zS]; exact v2)) (.inl (zF _)))) fun D σ H q => ?_)
    obtain ⟨Dc, bs, rfl, rfl, ko, q1, q⟩ := q
    exact ⟨_, q1, rfl, Dc, bs, hz.zc, hfl, ko, fun H' x => ⟨by rw [sizeLine_eq]; simp, fun p hp => q p _ (x.trans (Ext.new hp)) upd_same⟩⟩
  · obtain ⟨hl, q1, q2, q⟩ := q
    have e0 : (σ.set 1 (some V.non))[0]? = some (some (.ref f)) := by rw [List.getElem?_set_ne (by decide)]; exact q1
    refine ⟨e0, q2, mono _ _ _ _ _ (fun cls d H' h => ?_) (fun v H' h => fun p H'' x e => ?_) q⟩
    · obtain ⟨Dc, bs, rfl, rfl, h1, h2, ko, hq⟩ := h
      refine ⟨h1, true, h2, fun _ a ha => ⟨Dc, bs, rfl, rfl, ko, ?_, fun p H'' x e => ?_⟩, fun z => nomatch z⟩
      · rw [List.getElem?_set_self (by rw [List.length_set]; omega)]
      · refine ⟨.ref p, ?_, hq p H'' x e⟩
        rw [List.getElem?_set_ne (by decide), List.getElem?_set_self (by simp only [List.length_set]; omega)]
    · refine ⟨.ref p, ?_, h p H'' x e⟩
      rw [List.getElem?_set_self (by simp only [List.length_set]; omega)]
theorem call_gives {X : Cx} {x q : Str} {sg : Scope} {g TM FE fk : Addr} {cdg : Value} {bg : List Stmt} {fd : FuncData} {k : Nat} (chk : callB sg bg = true) (hTM : X.mg "TooMany" = some (.ref TM)) (hFE : X.mg "FaceError" = some (.ref FE)) (hk : X.mg "_law_kinds" = some (.ref fk)) (kp : PySem.W.keepIn X.K (.ref fk) = true)
    (hb : L2.Binds X.K fd ["e"] []) (Fk : FnP' X.prog X.w X.K X.mg X.base C8.CX0 1 fk fd ["e"] (kSp X.K X.mg)) :
    GivesToN X (k + 1) cN x sg g cdg bg "call_so" q (TTk X.K X.mg TM FE) := by
  intro f c' s H Q tl hr act mono hc h
  refine ⟨_, call_body (Z := (cxOf C8.CX0 X.prog X.w X.K X.mg X.base cN x sg g cdg X.A X.stack s H C8.E0).nox) (f := f) (c' := c') (q := q) (tl := tl) chk rfl rfl (fun _ => rfl) rfl rfl (fun a => by
    have r := roomH_of (hr.mono (Nat.succ_le_succ (Nat.zero_le k)))
    exact ⟨r.dp, r.un⟩) hTM hFE hk kp hb Fk act mono, rfl, rfl, hc, h⟩
end HotL
end
section
set_option Elab.async false
set_option linter.all false
set_option maxRecDepth 100000
set_option maxHeartbeats 1000000
/-! FZ: what is known of a place in the program; promises of defs. -/
namespace FF
open PySem PySem.Spec PyProof.Rows L2 PySem.W
open HotL (KindsOf kWords ExtD tLamN TTk lamCxN)
open LamX (LamS lamEnv)

/-- what a def promises -/
def spF (K : PySem.W.Frag) (wd : World) (fa xa : Nat → Addr) (n : Nat) (F : FunD) : Sp := fun vs H Q E => vs.length = n ∧ ∃ ws, SR K wd fa (vs.map some) ws H ∧ match F ws with
  | .ok w outs => ∀ v H', Stp K wd fa (vs.map some) ws H (vs.map some) outs H' → WR (K := K) (wd := wd) (fa := fa) (σ := vs.map some) ws H outs H' v w → Q v H'
  | .ex c => ∀ H', Stp K wd fa (vs.map some) ws H (vs.map some) ws H' → E (.ref (xa c)) none H'
  | .bad => False
/-- of a def that answers a pair, its first the value that is told -/
def spO (K : PySem.W.Frag) (wd : World) (fa xa : Nat → Addr) (n : Nat) (F : FunD) : Sp := fun vs H Q E => vs.length = n ∧ ∃ ws, SR K wd fa (vs.map some) ws H ∧ match F ws with
  | .ok w outs => ∀ T a u H', Stp K wd fa (vs.map some) ws H (vs.map some) outs H' → H' T = some (.tup [.ref a, u]) → WR (K := K) (wd := wd) (fa := fa) (σ := vs.map some) ws H outs H' (.ref a) w → Q (.ref T) H'
  | .ex c => ∀ H', Stp K wd fa (vs.map some) ws H (vs.map some) ws H' → E (.ref (xa c)) none H'
  | .bad => False
/-- from 1000 on: of such a def -/
def spX (K : PySem.W.Frag) (wd : World) (fa xa : Nat → Addr) (n : Nat) (F : FunD) : Sp := if n < 1000 then spF K wd fa xa n F else spO K wd fa xa (n - 1000) F
theorem spX_lt {K : PySem.W.Frag} {wd : World} {fa xa : Nat → Addr} {n : Nat} {F : FunD} (h : n < 1000) : spX K wd fa xa n F = spF K wd fa xa n F := if_pos h
theorem spX_o {K : PySem.W.Frag} {wd : World} {fa xa : Nat → Addr} {n : Nat} {F : FunD} : spX K wd fa xa (n + 1000) F = spO K wd fa xa n F := by
  unfold spX; rw [if_neg (by omega), Nat.add_sub_cancel]
/-- the names that a place knows -/
structure Ctx where
  N : List Str
  sc : Scope
  fns : List (Str × Nat)
  gl : List (Str × D)
  errs : List Str
  bl : List Str
  may : List Nat
  top : Bool
  lam : Option (List Str)
def EXK (xa : Nat → Addr) (Ex : Nat → Hp → Prop) : XK := fun cls d H => d = none ∧ ∃ c, cls = .ref (xa c) ∧ Ex c H
structure FnP (P : Program) (w : World) (K : PySem.W.Frag) (mg : Str → Option Value) (base : Heap) (fa xa : Nat → Addr) (kk : Nat) (x : Str) (n f : Nat) (F : FunD) : Prop where
  ex : ∃ fd ps, FnOk P w K mg base (L2N.CX P w) kk (fa f) fd ps (spX K w fa xa n F) ∧ Binds K fd ps []
  keep : PySem.W.keepIn K (.ref (fa f)) = true
  glo : mg x = some (.ref (fa f))
theorem FnP.mono {P : Program} {w : World} {K : PySem.W.Frag} {mg : Str → Option Value} {base : Heap} {fa xa : Nat → Addr} {j kk : Nat} {x : Str} {n f : Nat} {F : FunD} (h : FnP P w K mg base fa xa j x n f F) (l : j ≤ kk) : FnP P w K mg base fa xa kk x n f F := by
  obtain ⟨fd, ps, h1, h2⟩ := h.ex
  exact ⟨⟨fd, ps, h1.mono l, h2⟩, h.keep, h.glo⟩
structure ErrP (K : PySem.W.Frag) (mg : Str → Option Value) (x : Str) (a : Addr) : Prop where
  glo : mg x = some (.ref a)
  exc : PySem.W.excIn K a He.veBase "ValueError.__new__" = true
  keep : PySem.W.keepIn K (.ref a) = true
  sub : PySem.W.subIn K (.ref a) (.type "BaseException") = some true
  ty : PySem.W.typeIn K (.ref a) = some (.type "type")
/-- a lambda handed to _law_call, in law -/
structure LamF (Γ : Nat → FunD) (fa xa : Nat → Addr) (fns : List (Str × Nat)) (ks : List Str) (k2 : Nat) (TM FE : Addr) (X : Cx) : Prop where
  fns : ∀ (f : Nat) (x : Str) (n : Nat), fns[f]? = some (x, n) → FnP X.prog X.w X.K X.mg X.base fa xa k2 x n f (Γ f)
  tb : fa 999999 ≠ 0
  run : ∀ {params : Arguments} {body : Expr} {scope : Scope} {lpos p pos : Pos} {t : XK → TE}, LamS X.env.scope scope → defaultsOf params X.env = ([], []) → (∀ (q : Str) (cl : List (Str × Addr)) (pm cv ctv : Value), bindArgs (PySem.W.kla_fn "<lambda>" q params body scope cl pm cv ctv) ⟨[], []⟩ = pure []) →
    (∀ (E E' : XK) (σ : L2.St) (H : Hp) (Q Q' : VK), (∀ cls d H', E cls d H' → E' cls d H') → (∀ v H', Q v H' → Q' v H') → t E σ H Q → t E' σ H Q') →
    (∀ (A : Around) (outer : List Env) (s : Shared) (H : Hp) (E : XK) (f c' : Addr), Room k2 (A.deeper (lamEnv X scope s.heap.objs.size f c')) → PE (lamCxN X A outer s H E scope f c') body (t E)) → Gl X "_law_call" →
    PE X (.Call (.Name "_law_call" p) [.Lambda params body scope lpos] [] pos) (tLamN (fa 999999) lamQ (TTk X.K X.mg TM FE) t)
  kinds : ∀ (c : Nat) (z : Str), ks[c]? = some z → ∃ bs, KindsOf X.K X.mg (xa c) bs ∧ kWords bs = z ∧ PySem.W.exmOne X.K (.ref (xa c)) (.ref TM) = some false ∧ PySem.W.exmOne X.K (.ref (xa c)) (.ref FE) = some true
structure Gd (Z : Ctx) (Γ : Nat → FunD) (fa xa : Nat → Addr) (Ex : Nat → Hp → Prop) (kk : Nat) (X : Cx) : Prop where
  N : X.N = Z.N
  nd : X.N.Nodup
  sc : X.env.scope = Z.sc
  calm : X.calm = true
  fn : Z.top = true → ∀ x, X.fn x = true
  pass : PassesOwn (model X.prog X.w) X.A X.env X.xe
  rf : ∃ j, Room j X.A ∧ ∀ (f : Nat) (x : Str) (n : Nat), Z.fns[f]? = some (x, n) → FnP X.prog X.w X.K X.mg X.base fa xa j x n f (Γ f)
  bl : ∀ x ∈ Z.bl, X.mg x = none
  gl : ∀ (n : Nat) (x : Str) (d : D), Z.gl[n]? = some (x, d) → ∃ u v, X.mg x = some u ∧ RelV v u ∧ ∀ H, RD X.K X.w H v d
  errs : ∀ (c : Nat) (x : Str), Z.errs[c]? = some x → ErrP X.K X.mg x (xa c)
  tk : L2N.Takes X fun cls d _ H => EXK xa Ex cls d H
  lam : ∀ ks, Z.lam = some ks → ∃ k2 TM FE, LamF Γ fa xa Z.fns ks k2 TM FE X
theorem Gd.pass1 {Z : Ctx} {Γ : Nat → FunD} {fa xa : Nat → Addr} {Ex : Nat → Hp → Prop} {kk : Nat} {X : Cx} (g : Gd Z Γ fa xa Ex kk X) : Passes (L2N.CX X.prog X.w) X (EXK xa Ex) :=
  L2N.passes_call g.tk fun _ _ _ _ h => h
/-- in a block -/
def Ctx.blk (Z : Ctx) (scope : Scope) (own : List Nat) : Ctx := { Z with sc := relS scope Z.sc, may := own, top := false, lam := none }
theorem Gd.blk {Z : Ctx} {Γ : Nat → FunD} {fa xa : Nat → Addr} {Ex : Nat → Hp → Prop} {kk : Nat} {X : Cx} (g : Gd Z Γ fa xa Ex kk X) (scope : Scope) (own : List Nat) (s : Shared) (H : Hp) (C : Addr) (cl : List (Str × Addr)) (fp : List Addr) :
    Gd (Z.blk scope own) Γ fa xa NoX kk (X.blk s H scope (compEnvC scope cl C X.env) fp) := by
  refine ⟨g.N, g.nd, ?_, g.calm, fun h => (nomatch h), PassesOwn.never, g.rf, g.bl, g.gl, g.errs, fun u s' x => ?_, fun ks h => (nomatch h)⟩
  · show relabel scope X.env = relS scope Z.sc
    rw [← g.sc]
    rfl
  · obtain ⟨a, B, sI, pins, σ, H', cls, d, h⟩ := x
    obtain ⟨_, c, _, z⟩ := h.2.2.2.2.2.2.2.2
    exact z.elim

/-! ### lambdas -/
def Ctx.lamC (Z : Ctx) (scope : Scope) : Ctx := { Z with sc := scope, may := [], top := false, lam := none }
theorem Gd.lamG {Z : Ctx} {Γ : Nat → FunD} {fa xa : Nat → Addr} {Ex : Nat → Hp → Prop} {kk : Nat} {X : Cx} (g : Gd Z Γ fa xa Ex kk X) {ks : List Str} {k2 : Nat} {TM FE : Addr} (F : LamF Γ fa xa Z.fns ks k2 TM FE X) (scope : Scope) (A : Around) (outer : List Env) (s : Shared) (H : Hp) (E : XK) (f c' : Addr)
    (hr : Room k2 (A.deeper (lamEnv X scope s.heap.objs.size f c'))) : Gd (Z.lamC scope) Γ fa xa (fun c H => E (.ref (xa c)) none H) kk (lamCxN X A outer s H E scope f c') :=
  ⟨g.N, g.nd, rfl, rfl, fun h => (nomatch h), passes_of (K := fun e s'' => L2N.CX X.prog X.w outer H s E e s'') rfl, ⟨k2, hr, F.fns⟩, g.bl, g.gl, g.errs, (L2N.takes_of rfl rfl rfl rfl).imp fun cls d σ H ⟨e0, c, e, q⟩ => by subst e0; subst e; exact q, fun ks h => (nomatch h)⟩
theorem Stp.lam {K : PySem.W.Frag} {wd : World} {fa : Nat → Addr} {σ : L2.St} {ρ : Sl} {H H1 : Hp} (s : SR K wd fa σ ρ H) (x : ExtD lamQ H H1) : Stp K wd fa σ ρ H σ ρ H1 := by
  have mo : Mo H H1 := ⟨fun a xs e => x.1 a _ e (fun ps z => nomatch z), fun a o u e => x.1 a _ e (fun ps z => nomatch z), x.2.2⟩
  have mu : ∀ b o, H b = some o → Mut (some o) → H1 b = some o := fun b o e m => x.1 b o e (fun ps z => by subst z; exact m)
  refine ⟨s.mono mo fun i a o h e => ?_, mo, fun b o e m _ => mu b o e m, fun b h => .inl h, fun b h => .inl h, x.2.1⟩
  obtain ⟨o', e', m⟩ := s.there h
  rw [e] at e'; cases e'
  exact mu a o e m
theorem Stp.ext {K : PySem.W.Frag} {wd : World} {fa : Nat → Addr} {σ : L2.St} {ρ : Sl} {H H1 : Hp} (s : SR K wd fa σ ρ H) (x : HotL.Ext H H1) : Stp K wd fa σ ρ H σ ρ H1 := by
  have mo : Mo H H1 := ⟨fun a xs e => x a _ e, fun a o u e => x a _ e, fun P t => t.ext x⟩
  refine ⟨s.mono mo fun i a o h e => x a o e, mo, fun b o e m _ => x b o e, fun b h => .inl h, fun b h => .inl h, fun b e => ?_⟩
  cases q : H b with
  | none => rfl
  | some o => rw [x b o q] at e; cases e
def noArgs : Arguments := { posonlyargs := [], args := [], vararg := none, kwonlyargs := [], kw_defaults := [], kwarg := none, defaults := [] }
theorem told_rd {Γ : Nat → FunD} {fns : List (Str × Nat)} {fa xa : Nat → Addr} {Ex : Nat → Hp → Prop} {X : Cx} {ks : List Str} {k2 : Nat} {TM FE : Addr} (F : LamF Γ fa xa fns ks k2 TM FE X) {body : Expr} {scope : Scope} {p lpos pos : Pos} {f : Sl → O D} (hg : Gl X "_law_call") (L : LamS X.env.scope scope)
    (hb : ∀ (A : Around) (outer : List Env) (s : Shared) (H : Hp) (E : XK) (fn c' : Addr), Room k2 (A.deeper (lamEnv X scope s.heap.objs.size fn c')) → PE (lamCxN X A outer s H E scope fn c') body (rdD X.K X.w fa (fun c H => E (.ref (xa c)) none H) f)) :
    PE X (.Call (.Name "_law_call" p) [.Lambda noArgs body scope lpos] [] pos) (rdW X.K X.w fa Ex fun ρ => match f ρ with
      | .ok x ρ => .ok (.d (.tuple [.str toldS, x])) ρ
      | .ex c ρ => (match ks[c]? with
        | some z => .ok (.d (.tuple [.str z])) ρ
        | none => .bad)
      | .bad => .bad) := by
  refine PE.weak (F.run (t := fun E => rdD X.K X.w fa (fun c H => E (.ref (xa c)) none H) f) L rfl (fun _ _ _ _ _ => rfl) (fun E E' σ H Q Q' hE hQ ⟨ρ, sr, q⟩ => ?_) hb hg) fun σ H Q ⟨ρ, sr, q⟩ => ?_
  · refine ⟨ρ, sr, ?_⟩
    cases ef : f ρ with
    | bad => rw [ef] at q; exact q.elim
    | ok x ρ' => rw [ef] at q; exact fun H' st v r => hQ v H' (q H' st v r)
    | ex c ρ' => rw [ef] at q; exact fun H' st => hE _ _ _ (q H' st)
  · refine ⟨sr.tab F.tb, fun H1 ex => ?_⟩
    have s1 := Stp.lam sr ex
    refine ⟨ρ, s1.sr, ?_⟩
    dsimp only at q
    cases ef : f ρ with
    | bad => rw [ef] at q; exact q.elim
    | ok x ρ' =>
      rw [ef] at q
      intro H' st v r p H'' x e
      have s2 := Stp.ext st.sr x
      exact q H'' (s1.trans (st.trans s2)) (.ref p) (WR.dat (.tup (.inl (.inl e)) (.cons (.str _) (.cons (RD.mono s2.mo _ _ r) .nil))))
    | ex c ρ' =>
      rw [ef] at q
      dsimp only at q
      cases ek : ks[c]? with
      | none => rw [ek] at q; exact q.elim
      | some z =>
        rw [ek] at q
        obtain ⟨bs, k1, k2, k3, k4⟩ := F.kinds c z ek
        subst k2
        intro H' st
        refine ⟨xa c, bs, rfl, rfl, k3, k4, k1, fun p H'' x e => ?_⟩
        have s2 := Stp.ext st.sr x
        exact q H'' (s1.trans (st.trans s2)) (.ref p) (WR.dat (.tup (.inl (.inl e)) (.cons (.str _) .nil)))
/-! ### calls -/
section
variable {X : Cx} {fa xa : Nat → Addr} {Ex : Nat → Hp → Prop} {fs : Sl → O (List A)} {F : FunD} {n : Nat}
theorem call_rdW (hn : ∀ ρ as ρ', fs ρ = .ok as ρ' → as.length = n) {σ : L2.St} {H : Hp} {Q : VK} (q0 : rdW X.K X.w fa Ex (fun ρ => (fs ρ).bind fun as ρ => doCall F as ρ) σ H Q) :
    tCall (spF X.K X.w fa xa n F) [] (EXK xa Ex) (rdAs X.K X.w fa Ex fs) σ H Q := by
  obtain ⟨ρ, sr, q⟩ := q0
  refine ⟨ρ, sr, ?_⟩
  dsimp only at q
  cases ef : fs ρ with
  | bad => rw [ef] at q; exact q.elim
  | ex c ρ1 => rw [ef] at q; exact q
  | ok as ρ1 =>
    have q' := q
    rw [ef] at q
    intro H1 s1 vs ar
    rw [List.append_nil]
    dsimp only [O.bind] at q
    unfold doCall at q
    by_cases nd : nodupB (slotsOf as) = true
    case neg => rw [if_neg nd] at q; exact q.elim
    rw [if_pos nd] at q
    cases aw : argsW ρ1 as with
    | none => rw [aw] at q; exact q.elim
    | some ws =>
    rw [aw] at q
    dsimp only at q
    refine ⟨by rw [ar.length]; exact hn _ _ _ ef, ws, args_sr s1.sr ar nd aw, ?_⟩
    cases eF : F ws with
    | bad => rw [eF] at q; exact q.elim
    | ok w outs =>
      rw [eF] at q
      intro v H' st rw_
      exact q H' (s1.trans (Stp.called s1.sr ar nd aw st).1) v ((rw_.called s1.sr ar nd aw st).later s1)
    | ex c =>
      rw [eF] at q
      intro H' st
      have st2 := (Stp.called s1.sr ar nd aw st).1
      rw [putOuts_same aw] at st2
      exact ⟨rfl, c, rfl, q H' (s1.trans st2)⟩
theorem call_rdWO (hn : ∀ ρ as ρ', fs ρ = .ok as ρ' → as.length = n) {σ : L2.St} {H : Hp} {Q Q' : VK} (hQ : ∀ T a u H', H' T = some (.tup [.ref a, u]) → Q (.ref a) H' → Q' (.ref T) H') (q0 : rdW X.K X.w fa Ex (fun ρ => (fs ρ).bind fun as ρ => doCall F as ρ) σ H Q) :
    tCall (spO X.K X.w fa xa n F) [] (EXK xa Ex) (rdAs X.K X.w fa Ex fs) σ H Q' := by
  obtain ⟨ρ, sr, q⟩ := q0
  refine ⟨ρ, sr, ?_⟩
  dsimp only at q
  cases ef : fs ρ with
  | bad => rw [ef] at q; exact q.elim
  | ex c ρ1 => rw [ef] at q; exact q
  | ok as ρ1 =>
    have q' := q
    rw [ef] at q
    intro H1 s1 vs ar
    rw [List.append_nil]
    dsimp only [O.bind] at q
    unfold doCall at q
    by_cases nd : nodupB (slotsOf as) = true
    case neg => rw [if_neg nd] at q; exact q.elim
    rw [if_pos nd] at q
    cases aw : argsW ρ1 as with
    | none => rw [aw] at q; exact q.elim
    | some ws =>
    rw [aw] at q
    dsimp only at q
    refine ⟨by rw [ar.length]; exact hn _ _ _ ef, ws, args_sr s1.sr ar nd aw, ?_⟩
    cases eF : F ws with
    | bad => rw [eF] at q; exact q.elim
    | ok w outs =>
      rw [eF] at q
      intro T a u H' st hT rw_
      exact hQ T a u H' hT (q H' (s1.trans (Stp.called s1.sr ar nd aw st).1) (.ref a) ((rw_.called s1.sr ar nd aw st).later s1))
    | ex c =>
      rw [eF] at q
      intro H' st
      have st2 := (Stp.called s1.sr ar nd aw st).1
      rw [putOuts_same aw] at st2
      exact ⟨rfl, c, rfl, q H' (s1.trans st2)⟩
theorem call_rd {e : Expr} (h : PE X e (tCall (spF X.K X.w fa xa n F) [] (EXK xa Ex) (rdAs X.K X.w fa Ex fs))) (hn : ∀ ρ as ρ', fs ρ = .ok as ρ' → as.length = n) :
    PE X e (rdW X.K X.w fa Ex fun ρ => (fs ρ).bind fun as ρ => doCall F as ρ) :=
  PE.weak h fun _ _ _ q => call_rdW hn q
end
end FF
end
section
set_option Elab.async false
set_option linter.all false
set_option maxRecDepth 100000
set_option maxHeartbeats 1000000
/-! HA: is this the small syntax of that text? -/
namespace FF
open PySem PySem.Spec PyProof.Rows L2 PySem.W

def visB (sc : Scope) (x : Str) : Bool := match sc.names.lookup x with
  | some .local => true
  | some .cell => true
  | some .free => true
  | _ => false
def plainB (x : Str) : Bool := !(x == ("__debug__" : Str)) && !(x == ("__classdict__" : Str))
def nmB (Z : Ctx) (i : Nat) (x : Str) : Bool := decide (Z.N[i]? = some x) && visB Z.sc x && plainB x
def glB (Z : Ctx) (x : Str) : Bool := (match Z.sc.names.lookup x with
  | some .globalImplicit => true
  | _ => false) && !(x == ("__debug__" : Str))
def bltB (Z : Ctx) (x y : Str) : Bool := decide (x = y) && glB Z x && Z.bl.contains x
/-- may be set -/
def stoB (Z : Ctx) (i : Nat) (x : Str) : Bool := decide (Z.N[i]? = some x) && Z.may.contains i && (match Z.sc.names.lookup x with
  | some .local => true
  | some .cell => Z.top
  | _ => false)
def noStar : Expr → Bool
  | .Starred _ _ => false
  | _ => true
def plainIxB : Expr → Bool
  | .Slice _ _ _ _ => false
  | _ => true
def noSwapB : Expr → Bool
  | .ListComp _ _ _ _ => false
  | .SetComp _ _ _ _ => false
  | .DictComp _ _ _ _ _ => false
  | _ => true
def valueB : Expr → Bool
  | .UnaryOp .Not _ _ => false
  | .BoolOp _ _ _ => false
  | .IfExp _ _ _ _ => false
  | .Compare _ _ _ _ => false
  | _ => true
def noSetB : Expr → Bool
  | .Set _ _ _ => false
  | _ => true
def kB : D → Const → Bool
  | .int i, .int j => decide (i = j)
  | .bool a, .bool b => a == b
  | .str a, .str b => decide (a = b)
  | .none, .none => true
  | _, _ => false
def bopB : Bop → Operator → Bool
  | .add, .Add => true
  | .sub, .Sub => true
  | .mul, .Mult => true
  | .fdiv, .FloorDiv => true
  | .mod, .Mod => true
  | .pow, .Pow => true
  | _, _ => false
def copB : Cop → CmpOp → Bool
  | .eq, .Eq => true
  | .ne, .NotEq => true
  | .lt, .Lt => true
  | .le, .LtE => true
  | .gt, .Gt => true
  | .ge, .GtE => true
  | .isIn, .In => true
  | .notIn, .NotIn => true
  | .isN, .Is => true
  | .notN, .IsNot => true
  | _, _ => false
def Bi.name : Bi → Str
  | .len => "len"
  | .abs => "abs"
  | .int => "int"
  | .str => "str"
  | .sum => "sum"
  | .max => "max"
  | .min => "min"
  | .tuple => "tuple"
  | .list => "list"
  | .all => "all"
  | .any => "any"
  | .sorted => "sorted"
  | _ => ""
def Ty.name : Ty → Str
  | .int => "int"
  | .bool => "bool"
  | .str => "str"
  | .tuple => "tuple"
  | .list => "list"
  | .tupleList => ""
def mtoN : Mt → Str
  | .extend => "extend"
  | .pop => "pop"
  | .popAt => "pop"
  | _ => ""
def mtN : Mt → Str
  | .join => "join"
  | .split => "split"
  | .index => "index"
  | .upper => "upper"
  | _ => ""
/-- no call of super() -/
def baseB : Expr → Bool
  | .Constant _ _ _ => true
  | .Name _ _ => true
  | .Subscript _ _ _ => true
  | _ => false
/-- the number of items -/
def esLen : Es → Nat
  | .nil => 0
  | .cons _ es => esLen es + 1
def noArgsB : Arguments → Bool
  | ⟨[], [], none, [], [], none, []⟩ => true
  | _ => false
/-- a comprehension put into a cell -/
def lcCellB (Z : Ctx) (y : Str) : Expr → Bool
  | .ListComp _ _ _ _ => (match Z.sc.names.lookup y with
    | some .cell => true
    | _ => false)
  | _ => false
def lkB (own : List Nat) : Src → Bool
  | .lk i => !own.contains i
  | _ => true
/-- defs of so many parameters -/
def fnsB (Z : Ctx) (n : Nat) (fs : List Nat) : Bool := fs.all fun f => match Z.fns[f]? with
  | some (_, m) => decide (m = n) && decide (m < 1000)
  | none => false
/-- the names of defs -/
def okF (Z : Ctx) : List Nat → List Expr → Bool
  | [], [] => true
  | f :: fs, .Name y _ :: xs => glB Z y && (match Z.fns[f]? with
    | some (z, _) => decide (z = y)
    | none => false) && okF Z fs xs
  | _, _ => false
mutual
def okE (Z : Ctx) : E → Expr → Bool
  | .k x, e => match e with
    | .Constant c _ _ => kB x c
    | _ => false
  | .g n x, e => match e with
    | .Name y _ => glB Z y && (match Z.gl[n]? with
      | some (z, d) => decide (z = y) && dEq d x
      | none => false)
    | _ => false
  | .fnk f, e => match e with
    | .Name y _ => glB Z y && (match Z.fns[f]? with
      | some (z, _) => decide (z = y)
      | none => false)
    | _ => false
  | .var i, e => match e with
    | .Name y _ => nmB Z i y
    | _ => false
  | .mv i, e => match e with
    | .Name y _ => nmB Z i y
    | _ => false
  | .tup es, e => match e with
    | .Tuple xs _ _ => okEs Z es xs
    | _ => false
  | .lst es, e => match e with
    | .List xs _ => okEs Z es xs
    | _ => false
  | .dsp ps, e => match e with
    | .Dict ks vs _ => okPs Z ps ks vs
    | _ => false
  | .neg a, e => match e with
    | .UnaryOp .USub x _ => okE Z a x
    | _ => false
  | .not a, e => match e with
    | .UnaryOp .Not x _ => okE Z a x
    | _ => false
  | .bin o a b, e => match e with
    | .BinOp x p y _ => bopB o p && okE Z a x && okE Z b y
    | _ => false
  | .cmp o a b, e => match e with
    | .Compare x [p] [y] _ => copB o p && okE Z a x && okE Z b y && noSetB y
    | _ => false
  | .chain o o' a b c, e => match e with
    | .Compare x [p, p'] [y, z] _ => copB o p && copB o' p' && okE Z a x && okE Z b y && okE Z c z && noSetB z
    | _ => false
  | .and a b, e => match e with
    | .BoolOp .And (x :: y :: r) p => okE Z a x && okE Z b (.BoolOp .And (y :: r) p)
    | _ => false
  | .or a b, e => match e with
    | .BoolOp .Or (x :: y :: r) p => okE Z a x && okE Z b (.BoolOp .Or (y :: r) p)
    | _ => false
  | .one a, e => match e with
    | .BoolOp _ [x] _ => okE Z a x
    | _ => false
  | .ife c a b, e => match e with
    | .IfExp t x y _ => okT Z c t && okE Z a x && okE Z b y
    | _ => false
  | .idx a i, e => match e with
    | .Subscript x y _ => okE Z a x && okE Z i y && plainIxB y
    | _ => false
  | .slc a lo hi, e => match e with
    | .Subscript x (.Slice l h none _) _ => okE Z a x && okO Z lo l && okO Z hi h
    | _ => false
  | .call f es, e => match e with
    | .Call (.Name y _) args [] _ => glB Z y && (match Z.fns[f]? with
      | some (z, n) => decide (z = y) && decide (args.length = n) && decide (n < 1000)
      | none => false) && okEs Z es args
    | .Subscript (.Call (.Name y _) args [] _) (.Constant (.int i) _ _) _ => decide (i = 0) && (glB Z y && (match Z.fns[f]? with
      | some (z, n) => decide (z = y) && decide (args.length + 1000 = n)
      | none => false) && okEs Z es args && decide (esLen es ≠ 0))
    | _ => false
  | .callv i fs es, e => match e with
    | .Call (.Name y _) args [] _ => nmB Z i y && fnsB Z args.length fs && okEs Z es args && decide (esLen es ≠ 0)
    | _ => false
  | .bi b es, e => match e with
    | .Call (.Name y _) args [] _ => bltB Z y b.name && decide (b.name ≠ "") && okEs Z es args && decide (esLen es ≠ 0)
    | _ => false
  | .isi t a, e => match e with
    | .Call (.Name y _) [x, .Name z _] [] _ => bltB Z y "isinstance" && bltB Z z t.name && decide (t ≠ .tupleList) && okE Z a x && noStar x
    | _ => false
  | .mt m a es, e => match e with
    | .Call (.Attribute o n apos) args [] cpos => okE Z a o && baseB o && decide (n = mtN m) && okEs Z es args && (apos.endLine == cpos.line) && (match m, args with
      | .join, [_] => true
      | .split, [_] => true
      | .index, [_] => true
      | .upper, [] => true
      | _, _ => false)
    | _ => false
  | .fstr es, e => match e with
    | .JoinedStr (x :: y :: r) _ => okJ Z es (x :: y :: r)
    | _ => false
  | .app i a, e => match e with
    | .Call (.Attribute (.Name y _) m apos) [x] [] cpos => nmB Z i y && decide (m = "append") && okE Z a x && noStar x && (apos.endLine == cpos.line)
    | _ => false
  | .mto m i es, e => match e with
    | .Call (.Attribute (.Name y _) n apos) args [] cpos => nmB Z i y && decide (n = mtoN m) && decide (n ≠ "") && okEs Z es args && (apos.endLine == cpos.line) && decide (args.length < 30) && (match m with
      | .extend => decide (esLen es ≠ 0)
      | .popAt => decide (esLen es ≠ 0)
      | .pop => decide (esLen es = 0)
      | _ => false)
    | _ => false
  | .lc own t s c a, e => match e with
    | .ListComp x [⟨tg, it, ifs, 0⟩] scope _ => okI Z s tg it && blkC Z.N Z.sc scope (own.map fun i => (Z.N.getD i Str.empty, i)) && lkB own s && okG (Z.blk scope own) t tg && okC (Z.blk scope own) c ifs && okE (Z.blk scope own) a x
    | _ => false
  | .told ks a, e => match e with
    | .Call (.Name x _) [.Lambda params body scope _] [] _ => decide (x = "_law_call") && glB Z x && (match Z.lam with
      | some ks' => decide (ks = ks')
      | none => false) && noArgsB params && LamX.lamSB Z.sc scope && okE (Z.lamC scope) a body
    | _ => false
  | _, _ => false
/-- the parts of an f-string -/
def okJ (Z : Ctx) : Es → List Expr → Bool
  | .nil, xs => match xs with
    | [] => true
    | _ => false
  | .cons a es, xs => match xs with
    | .FormattedValue x i none _ :: xs => decide (i = -1) && okE Z a x && okJ Z es xs
    | .Constant c k pos :: xs => (match a, c with
      | .k (.str z), .str y => decide (z = y)
      | _, _ => false) && okJ Z es xs
    | _ => false
def okT (Z : Ctx) : E → Expr → Bool
  | .and a b, e => match e with
    | .BoolOp .And (x :: y :: r) p => okT Z a x && okT Z b (.BoolOp .And (y :: r) p)
    | _ => false
  | .or a b, e => match e with
    | .BoolOp .Or (x :: y :: r) p => okT Z a x && okT Z b (.BoolOp .Or (y :: r) p)
    | _ => false
  | .one a, e => match e with
    | .BoolOp _ [x] _ => okT Z a x
    | _ => false
  | .not a, e => match e with
    | .UnaryOp .Not x _ => okT Z a x
    | _ => false
  | .var i, e => match e with
    | .Name y _ => nmB Z i y
    | _ => false
  | .cmp o a b, e => match e with
    | .Compare x [p] [y] _ => copB o p && okE Z a x && okE Z b y && noSetB y
    | _ => false
  | .chain o o' a b c, e => match e with
    | .Compare x [p, p'] [y, z] _ => copB o p && copB o' p' && okE Z a x && okE Z b y && okE Z c z && noSetB z
    | _ => false
  | .idx a i, e => match e with
    | .Subscript x y _ => okE Z a x && okE Z i y && plainIxB y
    | _ => false
  | .call f es, e => match e with
    | .Call (.Name y _) args [] _ => glB Z y && (match Z.fns[f]? with
      | some (z, n) => decide (z = y) && decide (args.length = n) && decide (n < 1000)
      | none => false) && okEs Z es args
    | _ => false
  | .bi b es, e => match e with
    | .Call (.Name y _) args [] _ => bltB Z y b.name && decide (b.name ≠ "") && okEs Z es args && decide (esLen es ≠ 0)
    | _ => false
  | .isi t a, e => match e with
    | .Call (.Name y _) [x, .Name z _] [] _ => bltB Z y "isinstance" && bltB Z z t.name && decide (t ≠ .tupleList) && okE Z a x && noStar x
    | _ => false
  | _, _ => false
def okEs (Z : Ctx) : Es → List Expr → Bool
  | .nil, xs => match xs with
    | [] => true
    | _ => false
  | .cons a es, xs => match xs with
    | x :: xs => okE Z a x && noStar x && okEs Z es xs
    | _ => false
def okO (Z : Ctx) : Es → Option Expr → Bool
  | .nil, o => match o with
    | none => true
    | _ => false
  | .cons a es, o => match o with
    | some x => okE Z a x
    | _ => false
def okPs (Z : Ctx) : Ps → List (Option Expr) → List Expr → Bool
  | .nil, ks, vs => match ks, vs with
    | [], [] => true
    | _, _ => false
  | .cons k v ps, ks, vs => (match ps with
    | .nil => true
    | _ => false) && match ks, vs with
    | [some x], [y] => okE Z k x && okE Z v y
    | _, _ => false
def okC (Z : Ctx) : Es → List Expr → Bool
  | .nil, xs => match xs with
    | [] => true
    | _ => false
  | .cons a es, xs => match xs with
    | [x] => okT Z a x
    | _ => false
def okI (Z : Ctx) : Src → Expr → Expr → Bool
  | .it a, tg, e => okE Z a e && noSetB e
  | .lk i, tg, e => match e with
    | .Name y _ => nmB Z i y
    | _ => false
  | .r1 a, tg, e => match e with
    | .Call (.Name y _) [x] [] _ => bltB Z y "range" && okE Z a x && noStar x
    | _ => false
  | .r2 a b, tg, e => match e with
    | .Call (.Name y _) [x, z] [] _ => bltB Z y "range" && okE Z a x && okE Z b z && noStar x && noStar z
    | _ => false
  | .zip a b, tg, e => match tg, e with
    | .Tuple _ _ _, .Call (.Name y _) [x, z] [] _ => bltB Z y "zip" && okE Z a x && okE Z b z && noStar x && noStar z
    | _, _ => false
  | .enum a, tg, e => match tg, e with
    | .Tuple _ _ _, .Call (.Name y _) [x] [] _ => bltB Z y "enumerate" && okE Z a x && noStar x
    | _, _ => false
  | .enumz a b, tg, e => match tg, e with
    | .Tuple _ _ _, .Call (.Name y _) [.Call (.Name y2 _) [x, z] [] _] [] _ => bltB Z y "enumerate" && bltB Z y2 "zip" && okE Z a x && okE Z b z && noStar x && noStar z
    | _, _ => false
  | _, _, _ => false
def okG (Z : Ctx) : T → Expr → Bool
  | .nm i, e => match e with
    | .Name y _ => stoB Z i y
    | _ => false
  | .tp ts, e => match e with
    | .Tuple xs _ _ => okGs Z ts xs
    | _ => false
  | .sub i a, e => match e with
    | .Subscript (.Name y _) x _ => nmB Z i y && okE Z a x && plainIxB x
    | _ => false
def okGs (Z : Ctx) : Ts → List Expr → Bool
  | .nil, xs => match xs with
    | [] => true
    | _ => false
  | .cons t ts, xs => match xs with
    | x :: xs => okG Z t x && noStar x && okGs Z ts xs
    | _ => false
end
def isLc : E → Bool
  | .lc _ _ _ _ _ => true
  | _ => false
def funB (Z : Ctx) : Bool := match Z.sc.kind with
  | .function => true
  | _ => false
/-- name = a comprehension on one line -/
def lcLineB (Z : Ctx) (y : Str) (py : Pos) : Expr → Bool
  | .ListComp _ [⟨_, _, _, 0⟩] scope pos => (match Z.sc.kind with
      | .function => true
      | _ => false) && (match Z.sc.names.lookup y with
      | some .local => true
      | _ => false) && (py.line == pos.line) && !(scope.names.any fun (n, k) => n == y && (k == .local || k == .cell))
  | _ => false
def locB (Z : Ctx) (i : Nat) (x : Str) : Bool := decide (Z.N[i]? = some x) && Z.may.contains i && (match Z.sc.names.lookup x with
  | some .local => true
  | _ => false)
mutual
def okS (Z : Ctx) : S → Stmt → Bool
  | .asg t a, s => match s with
    | .Assign [tg] e _ => (match t, tg with
      | .nm i, .Name y py => stoB Z i y && okE Z a e && (noSwapB e || lcCellB Z y e || lcLineB Z y py e && isLc a)
      | .nm _, _ => false
      | t, tg => okG Z t tg && okE Z a e && noSwapB e && (match t, tg, e with
        | .tp _, .Tuple ts _ _, .Tuple vs _ _ => decide (ts.length ≠ vs.length) || decide (3 < ts.length) || vs.all (foldedForSure 8)
        | _, _, _ => true) && noStar tg)
    | _ => false
  | .par is es, s => match s with
    | .Assign [.Tuple ts _ _] (.Tuple vs _ _) _ => okEs Z es vs && funB Z && decide (vs.all (foldedForSure 8) = false) && decide (vs.all (constantsAlone 8) = false) && (match is, ts, vs with
      | [i, j], [.Name x p, .Name y p'], [_, _] => locB Z i x && locB Z j y && decide (i ≠ j) && decide (x ≠ y) && (p.line == p'.line)
      | [i, j, l], [.Name x p, .Name y p', .Name z p''], [_, _, _] => locB Z i x && locB Z j y && locB Z l z && decide (i ≠ j) && decide (i ≠ l) && decide (j ≠ l) && decide (x ≠ y) && decide (x ≠ z) && decide (y ≠ z) && (p.line == p'.line) && (p.line == p''.line)
      | _, _, _ => false)
    | _ => false
  | .ex a, s => match s with
    | .Expr e _ => okE Z a e && noSwapB e
    | _ => false
  | .if_ c a b, s => match s with
    | .If e x y _ => okT Z c e && okSs Z a x && okSs Z b y
    | _ => false
  | .for_ t src body, s => match s with
    | .For tg it b [] _ => okI Z src tg it && okG Z t tg && okSs Z body b && lkB Z.may src
    | _ => false
  | .forf i fs body, s => match s with
    | .For (.Name y _) (.Tuple xs _ _) b [] _ => stoB Z i y && okF Z fs xs && okSs Z body b && decide (fs.length ≤ 1000)
    | _ => false
  | .whl c body, s => match s with
    | .While e b [] _ => okT Z c e && okSs Z body b
    | _ => false
  | .ret a, s => match s with
    | .Return (some e) _ => okE Z a e
    | _ => false
  | .retN, s => match s with
    | .Return none _ => true
    | _ => false
  | .raise c, s => match s with
    | .Raise (some (.Call (.Name y _) [.Constant (.str _) _ _] [] _)) none _ => glB Z y && (match Z.errs[c]? with
      | some z => decide (z = y)
      | none => false)
    | _ => false
def okSs (Z : Ctx) : Ss → List Stmt → Bool
  | .nil, xs => match xs with
    | [] => true
    | _ => false
  | .cons s ss, xs => match xs with
    | x :: xs => okS Z s x && okSs Z ss xs
    | _ => false
end
/-- a body that ends with return (a list of its own, data) -/
def okSsO (Z : Ctx) (i j : Nat) : Ss → List Stmt → Bool
  | .nil, xs => match xs with
    | [.Return (some (.Tuple [.Name y _, .Name z _] _ _)) _] => nmB Z i y && nmB Z j z
    | _ => false
  | .cons s ss, xs => match xs with
    | x :: xs => okS Z s x && okSsO Z i j ss xs
    | _ => false
end FF
end
section
set_option Elab.async false
set_option linter.all false
set_option maxRecDepth 100000
set_option maxHeartbeats 2000000
/-! HB: what is checked holds: expressions. -/
namespace FF
open PySem PySem.Spec PyProof.Rows L2 PySem.W
theorem noStar_ok {e : Expr} {es : List Expr} {env : Env} (h : noStar e = true) : starEach (e :: es) env = (false, eval e env) :: starEach es env := by
  cases e <;> first | (cases h; done) | rfl
theorem noStar_asg {e : Expr} {es : List Expr} {env : Env} (h : noStar e = true) : (assignEach (e :: es) env) = (false, assign e env) :: assignEach es env := by
  cases e <;> first | (cases h; done) | rfl
theorem plainIx_ok {e : Expr} (h : plainIxB e = true) : PlainIx e := by
  intro o i
  cases e <;> first | (cases h; done) | rfl
theorem value_ok {e : Expr} {env : Env} (h : valueB e = true) (whole : Sem Value) : isTrue e env whole = (do let v ← whole; standAt e.pos; holding [v] (truthy v)) := by
  cases e with
  | UnaryOp op x p => cases op <;> first | (cases h; done) | rfl
  | _ => first | (cases h; done) | rfl
theorem noSwap_ok {e : Expr} {t : Option Expr} {l : Nat} {env : Env} (h : noSwapB e = true) : swapsWith e t l env = pure false := by
  cases e <;> first | (cases h; done) | rfl
theorem noSet_ok {e : Expr} {op : CmpOp} (h : noSetB e = true) : behindInMarks op e = false := by
  cases e <;> first | (cases h; done) | rfl
theorem noSet_fold {e : Expr} {env : Env} (h : noSetB e = true) (x : Value) : foldedSetIterable e env x = pure x := by
  cases e <;> first | (cases h; done) | rfl
theorem noSet_last {x y : Expr} {p p' : CmpOp} (h : noSetB y = true) : lastMarks [p, p'] [x, y] = false := by
  show behindInMarks p' y = false
  exact noSet_ok h
theorem vis_ok {sc : Scope} {x : Str} (h : visB sc x = true) : Vis sc x := by
  unfold visB at h
  split at h
  · rename_i e; exact .inl e
  · rename_i e; exact .inr (.inl e)
  · rename_i e; exact .inr (.inr e)
  · cases h
section
variable {Z : Ctx} {Γ : Nat → FunD} {fa xa : Nat → Addr} {Ex : Nat → Hp → Prop} {kk : Nat} {X : Cx}
theorem nm_ok (g : Gd Z Γ fa xa Ex kk X) {i : Nat} {x : Str} (h : nmB Z i x = true) : Nm X i x := by
  unfold nmB plainB at h
  simp only [Bool.and_eq_true, decide_eq_true_eq, Bool.not_eq_true'] at h
  exact ⟨by rw [g.N]; exact h.1.1, by rw [g.sc]; exact vis_ok h.1.2, h.2.1, h.2.2⟩
theorem gl_ok (g : Gd Z Γ fa xa Ex kk X) {x : Str} (h : glB Z x = true) : Gl X x ∧ (x == ("__debug__" : Str)) = false := by
  unfold glB at h
  rw [Bool.and_eq_true, Bool.not_eq_true'] at h
  refine ⟨?_, h.2⟩
  have h1 := h.1
  split at h1
  · rename_i e
    show X.env.scope.names.lookup x = _
    rw [g.sc]; exact e
  · cases h1
theorem blt_ok (g : Gd Z Γ fa xa Ex kk X) {x y : Str} (h : bltB Z x y = true) : x = y ∧ Gl X x ∧ X.mg x = none ∧ (x == ("__debug__" : Str)) = false := by
  unfold bltB at h
  rw [Bool.and_eq_true, Bool.and_eq_true] at h
  obtain ⟨h1, h2⟩ := gl_ok g h.1.2
  exact ⟨of_decide_eq_true h.1.1, h1, g.bl x (List.contains_iff_mem.mp h.2), h2⟩
theorem PE.cong {e : Expr} {f f' : Sl → O W} (h : PE X e (rdW X.K X.w fa Ex f)) (q : ∀ ρ, f' ρ = f ρ) : PE X e (rdW X.K X.w fa Ex f') := by
  have : f' = f := funext q
  rw [this]; exact h
theorem PT.cong {e : Expr} {f f' : Sl → O Bool} (h : PT X e (rdT X.K X.w fa Ex f)) (q : ∀ ρ, f' ρ = f ρ) : PT X e (rdT X.K X.w fa Ex f') := by
  have : f' = f := funext q
  rw [this]; exact h
theorem bop_ok {o : Bop} {p : Operator} (h : bopB o p = true) : OpR X (binaryOp p) (rOp X.K X.w (binW o)) := by
  unfold bopB at h
  split at h
  · exact ev_add
  · exact ev_sub
  · exact ev_mul
  · exact ev_fdiv
  · exact ev_mod
  · exact ev_pow
  · cases h
theorem cop_ok (hu : X.A.units + 64 < cLine) {o : Cop} {p : CmpOp} (h : copB o p = true) : OpR X (compareOp p) (rOp X.K X.w (cB (cmpD o))) := by
  unfold copB at h
  split at h
  · exact ev_eq hu
  · exact ev_ne hu
  · exact ev_lt hu
  · exact ev_le
  · exact ev_gt
  · exact ev_ge
  · exact ev_in hu
  · exact ev_notIn hu
  · exact ev_isN
  · exact ev_notN
  · cases h
/-- a def's name as a value -/
theorem rd_fn1 (g : Gd Z Γ fa xa Ex kk X) {y : Str} {n f j : Nat} {p : Pos} (hy : glB Z y = true) (F : FnP X.prog X.w X.K X.mg X.base fa xa j y n f (Γ f)) : PE X (.Name y p) (tC (.ref (fa f))) :=
  pe_glob (gl_ok g hy).1 F.glo (v := .ref (fa f)) rfl (gl_ok g hy).2
/-- as an operand -/
theorem opA (g : Gd Z Γ fa xa Ex kk X) {e : E} {x : Expr} (ok : okE Z e x = true) (h : PE X x (rdW X.K X.w fa Ex (evW Γ e))) : PE X x (rdA X.K X.w fa Ex fun ρ => opnd e (evW Γ e ρ) ρ) := by
  have gen : PE X x (rdA X.K X.w fa Ex fun ρ => match dat (evW Γ e ρ) with
    | .ok x ρ => .ok (.v x) ρ
    | .ex c ρ => .ex c ρ
    | .bad => .bad) := pe_opd (pe_dat h)
  cases e with
  | var i =>
    simp only [okE] at ok
    split at ok
    · exact pe_pk (nm_ok g ok).at_ (nm_ok g ok).vis (nm_ok g ok).nd (nm_ok g ok).nc
    · cases ok
  | fnk f =>
    simp only [okE] at ok
    split at ok
    · rename_i y p
      rw [Bool.and_eq_true] at ok
      obtain ⟨h1, h2⟩ := ok
      split at h2
      · rename_i z n e
        have := of_decide_eq_true h2
        subst this
        obtain ⟨_, _, gf⟩ := g.rf
        refine PE.weak (rd_fn1 (p := p) g h1 (gf _ _ _ e)) fun σ H Q ⟨ρ, sr, q⟩ => q H (Stp.refl _ _ _ sr) _ rfl
      · cases h2
    · cases ok
  | _ => exact gen
end
end FF
end
section
set_option Elab.async false
set_option linter.all false
set_option maxRecDepth 100000
set_option maxHeartbeats 2000000
/-! HC: what is checked holds: calls, builtins. -/
namespace FF
open PySem PySem.Spec PyProof.Rows L2 PySem.W
theorem starAll {Z : Ctx} : ∀ {es : Es} {xs : List Expr} {env : Env}, okEs Z es xs = true → (starEach xs env).map (·.1) = xs.map fun _ => false
  | .nil, xs, env, h => by
    simp only [okEs] at h
    split at h
    · rfl
    · cases h
  | .cons e es, xs, env, h => by
    simp only [okEs] at h
    split at h
    · rename_i x r
      simp only [Bool.and_eq_true] at h
      rw [noStar_ok h.1.2, List.map_cons, starAll h.2]; rfl
    · cases h
theorem back_any {pos : Pos} {l : List (Bool × Sem Value)} : (backTo pos l).any (·.1) = l.any (·.1) := by
  unfold backTo
  rw [List.any_map]
  rfl
theorem starPl {Z : Ctx} {es : Es} {xs : List Expr} {env : Env} {pos : Pos} (h : okEs Z es xs = true) : (backTo pos (starEach xs env)).any (·.1) = false := by
  rw [back_any]
  have e := starAll (env := env) h
  have : (starEach xs env).any (·.1) = ((starEach xs env).map (·.1)).any id := by rw [List.any_map]; rfl
  rw [this, e]
  induction xs with
  | nil => rfl
  | cons _ _ _ => simp
theorem okEs_len {Z : Ctx} : ∀ {es : Es} {xs : List Expr}, okEs Z es xs = true → esLen es = xs.length
  | .nil, xs, h => by
    simp only [okEs] at h
    split at h
    · rfl
    · cases h
  | .cons e es, xs, h => by
    simp only [okEs] at h
    split at h
    · simp only [Bool.and_eq_true] at h
      rw [esLen, okEs_len h.2]; rfl
    · cases h
theorem evAs_len {Γ : Nat → FunD} : ∀ {es : Es} {ρ ρ' : Sl} {as : List A}, evAs Γ es ρ = .ok as ρ' → as.length = esLen es
  | .nil, ρ, ρ', as, h => by rw [evAs] at h; cases h; rfl
  | .cons e es, ρ, ρ', as, h => by
    rw [evAs] at h
    cases e1 : opnd e (evW Γ e ρ) ρ with
    | bad => rw [e1] at h; cases h
    | ex _ _ => rw [e1] at h; cases h
    | ok a ρ1 =>
      rw [e1] at h
      dsimp only [O.bind] at h
      cases e2 : evAs Γ es ρ1 with
      | bad => rw [e2] at h; cases h
      | ex _ _ => rw [e2] at h; cases h
      | ok bs ρ2 =>
        rw [e2] at h
        cases h
        rw [esLen, List.length_cons, evAs_len e2]
section
variable {Z : Ctx} {Γ : Nat → FunD} {fa xa : Nat → Addr} {Ex : Nat → Hp → Prop} {kk : Nat} {X : Cx}
/-- a call -/
theorem callE (g : Gd Z Γ fa xa Ex kk X) {f : Nat} {es : Es} {y : Str} {p pos : Pos} {args : List Expr} (h : (glB Z y && (match Z.fns[f]? with
      | some (z, n) => decide (z = y) && decide (args.length = n) && decide (n < 1000)
      | none => false) && okEs Z es args) = true) (ha : PA X args (rdAs X.K X.w fa Ex (evAs Γ es))) :
    PE X (.Call (.Name y p) args [] pos) (rdW X.K X.w fa Ex fun ρ => (evAs Γ es ρ).bind fun as ρ => doCall (Γ f) as ρ) := by
  rw [Bool.and_eq_true, Bool.and_eq_true] at h
  obtain ⟨⟨h1, h2⟩, h3⟩ := h
  obtain ⟨hg, hd⟩ := gl_ok g h1
  split at h2
  · rename_i z n e
    rw [Bool.and_eq_true, Bool.and_eq_true] at h2
    have e1 := of_decide_eq_true h2.1.1
    have e2 := of_decide_eq_true h2.1.2
    have e3 := of_decide_eq_true h2.2
    subst e1 e2
    obtain ⟨_, gr, gf⟩ := g.rf
    have F := gf f z _ e
    obtain ⟨fd, ps, F1, F2⟩ := F.ex
    rw [spX_lt e3] at F1
    refine call_rd (xa := xa) (n := args.length) ?_ fun ρ as ρ' q => ?_
    · cases args with
      | nil =>
        refine PE.weak (pe_call0 F1 gr hg F.glo F.keep F2 .nil g.pass1 hd) fun σ H Q q => ?_
        cases es with
        | nil =>
          have q : rdAs X.K X.w fa Ex (evAs Γ .nil) σ H fun vs H1 => spF X.K X.w fa xa 0 (Γ f) (vs ++ []) H1 Q (EXK xa Ex) := q
          obtain ⟨ρ, sr, q⟩ := q
          rw [evAs] at q
          exact q H (Stp.refl _ _ _ sr) [] trivial
        | cons e es => simp [okEs] at h3
      | cons a r =>
        have hs := h3
        cases es with
        | nil => simp [okEs] at h3
        | cons e es =>
          simp only [okEs, Bool.and_eq_true] at hs
          exact pe_call F1 gr hg F.glo F.keep F2 .nil g.pass1 ha hd (noStar_ok hs.1.2) (starPl hs.2)
    · rw [evAs_len q]; exact okEs_len h3
  · cases h2
/-- a call's first, of a def that answers a pair -/
theorem callO (g : Gd Z Γ fa xa Ex kk X) {f : Nat} {es : Es} {y : Str} {p p2 pos pos2 : Pos} {k2 : Nat} {args : List Expr} (h : (glB Z y && (match Z.fns[f]? with
      | some (z, n) => decide (z = y) && decide (args.length + 1000 = n)
      | none => false) && okEs Z es args && decide (esLen es ≠ 0)) = true) (ha : PA X args (rdAs X.K X.w fa Ex (evAs Γ es))) :
    PE X (.Subscript (.Call (.Name y p) args [] pos) (.Constant (.int 0) k2 p2) pos2) (rdW X.K X.w fa Ex fun ρ => (evAs Γ es ρ).bind fun as ρ => doCall (Γ f) as ρ) := by
  rw [Bool.and_eq_true, Bool.and_eq_true, Bool.and_eq_true] at h
  obtain ⟨⟨⟨h1, h2⟩, h3⟩, h4⟩ := h
  have h4 := of_decide_eq_true h4
  obtain ⟨hg, hd⟩ := gl_ok g h1
  split at h2
  · rename_i z n e
    rw [Bool.and_eq_true] at h2
    have e1 := of_decide_eq_true h2.1
    have e2 := of_decide_eq_true h2.2
    subst e1 e2
    obtain ⟨_, gr, gf⟩ := g.rf
    have F := gf f z _ e
    obtain ⟨fd, ps, F1, F2⟩ := F.ex
    rw [spX_o] at F1
    cases args with
    | nil => rw [okEs_len h3] at h4; exact absurd rfl h4
    | cons a r =>
      cases es with
      | nil => exact absurd rfl h4
      | cons x es =>
        have hs := h3
        simp only [okEs, Bool.and_eq_true] at hs
        refine PE.weak (pe_ix ix_tup (pe_call F1 gr hg F.glo F.keep F2 .nil g.pass1 ha hd (noStar_ok hs.1.2) (starPl hs.2)) pe_int (plainIx_ok rfl)) fun σ H Q q => ?_
        refine call_rdWO (xa := xa) (F := Γ f) (fun ρ as ρ' q => ?_) (fun T b u H' hT hq => ?_) q
        · rw [evAs_len q]; exact okEs_len h3
        · exact ⟨T, _, 0, _, rfl, rfl, .inl (.inl hT), rfl, hq⟩
  · cases h2
theorem units (g : Gd Z Γ fa xa Ex kk X) : X.A.units + 64 < cLine := let ⟨_, r, _⟩ := g.rf; r.units
/-- a builtin -/
theorem biE (g : Gd Z Γ fa xa Ex kk X) {b : Bi} {es : Es} {y : Str} {p pos : Pos} {args : List Expr} (h : (bltB Z y b.name && decide (b.name ≠ "") && okEs Z es args && decide (esLen es ≠ 0)) = true) (ha : PA X args (rdAs X.K X.w fa Ex (evAs Γ es))) :
    PE X (.Call (.Name y p) args [] pos) (rdW X.K X.w fa Ex fun ρ => (evAs Γ es ρ).bind fun as ρ => match ats ρ as with
      | some xs => okW (biW b xs) ρ
      | none => .bad) := by
  rw [Bool.and_eq_true, Bool.and_eq_true, Bool.and_eq_true] at h
  obtain ⟨⟨⟨h1, h2⟩, h3⟩, h4⟩ := h
  obtain ⟨rfl, hg, hm, hd⟩ := blt_ok g h1
  have h4 := of_decide_eq_true h4
  have h2 := of_decide_eq_true h2
  cases args with
  | nil => rw [okEs_len h3] at h4; exact absurd rfl h4
  | cons a r =>
    cases es with
    | nil => exact absurd rfl h4
    | cons e es =>
      have hs := h3
      simp only [okEs, Bool.and_eq_true] at hs
      have s1 := noStar_ok (es := r) (env := X.env) hs.1.2
      have s2 := starPl (env := X.env) (pos := pos) hs.2
      refine rd_fn ?_
      cases b with
      | len => exact pe_callB bi_len hg hm (by decide +kernel) ha (by decide) hd s1 s2
      | abs => exact pe_callB bi_abs hg hm (by decide +kernel) ha (by decide) hd s1 s2
      | int => exact pe_callTy bi_int hg hm (by decide +kernel) ha (by decide) hd s1 s2
      | str => exact pe_callTy bi_str hg hm (by decide +kernel) ha (by decide) hd s1 s2
      | sum => exact pe_callB (bi_sum g.calm) hg hm (by decide +kernel) ha (by decide) hd s1 s2
      | max => exact pe_callB (bi_max (units g) g.calm) hg hm (by decide +kernel) ha (by decide) hd s1 s2
      | min => exact pe_callB (bi_min (units g) g.calm) hg hm (by decide +kernel) ha (by decide) hd s1 s2
      | tuple => exact pe_callTy bi_tuple hg hm (by decide +kernel) ha (by decide) hd s1 s2
      | list => exact pe_callTy bi_list hg hm (by decide +kernel) ha (by decide) hd s1 s2
      | all => exact pe_callB (bi_all g.calm) hg hm (by decide +kernel) ha (by decide) hd s1 s2
      | any => exact pe_callB (bi_any g.calm) hg hm (by decide +kernel) ha (by decide) hd s1 s2
      | sorted => exact pe_callB (bi_sorted (units g)) hg hm (by decide +kernel) ha (by decide) hd s1 s2
      | dict => exact absurd rfl h2
      | sortedSet => exact absurd rfl h2
/-! ### isinstance -/
def Ty.tn : Ty → String
  | .int => "int"
  | .bool => "bool"
  | .str => "str"
  | .tuple => "tuple"
  | .list => "list"
  | .tupleList => ""
theorem call_isT {t : Ty} (nt : t ≠ .tupleList) : CallR X (.builtin "isinstance") (fun xs H Q => ∃ v d, xs = [v, .ty t.tn] ∧ RP X.K X.w H v d ∧ d.plain = true ∧ Q (.bl (isTy t d)) H) := by
  intro pins s σ H xs us Q I r h
  obtain ⟨v, d, rfl, rd, hp, q⟩ := h
  obtain ⟨u1, u2, rfl, r1, r2⟩ := vals2 r
  obtain ⟨as, rr⟩ := Dp.reads I d v u1 (rd.dp hp) r1
  have fin : ∀ (b : Bool) (tk : Nat), b = isTy t d → EP X pins σ Q (.bool b) { s with toks := tk } := fun b tk e => by
    subst e; exact ⟨.bl _, H, I.tok _, rfl, q⟩
  cases t with
  | tupleList => exact absurd rfl nt
  | int =>
    cases (show u2 = Value.type "int" from r2)
    exact isinstance_int_data rr fun tk _ => fin _ tk (by cases d <;> rfl)
  | bool =>
    cases (show u2 = Value.type "bool" from r2)
    exact isinstance_bool_data rr fun tk _ => fin _ tk (by cases d <;> rfl)
  | str =>
    cases (show u2 = Value.type "str" from r2)
    exact isinstance_str_data rr fun tk _ => fin _ tk (by cases d <;> rfl)
  | tuple =>
    cases (show u2 = Value.type "tuple" from r2)
    exact isinstance_tuple_data rr fun tk _ => fin _ tk (by cases d <;> rfl)
  | list =>
    cases (show u2 = Value.type "list" from r2)
    exact isinstance_list_data rr fun tk _ => fin _ tk (by cases d <;> rfl)
theorem ty_boot {t : Ty} (nt : t ≠ .tupleList) : bootBuiltins t.name = some (.type t.tn) := by
  cases t with
  | tupleList => exact absurd rfl nt
  | int => decide +kernel
  | bool => decide +kernel
  | str => decide +kernel
  | tuple => decide +kernel
  | list => decide +kernel
theorem ty_nn {t : Ty} : t.name ≠ "__name__" := by cases t <;> decide
theorem isiE (g : Gd Z Γ fa xa Ex kk X) {t : Ty} {y z : Str} {p pz pos : Pos} {x : Expr} {fA : Sl → O A} (h1 : bltB Z y "isinstance" = true) (h2 : bltB Z z t.name = true) (nt : t ≠ .tupleList) (hs : noStar x = true) (ha : PE X x (rdA X.K X.w fa Ex fA)) :
    PE X (.Call (.Name y p) [x, .Name z pz] [] pos) (rdW X.K X.w fa Ex fun ρ => (fA ρ).bind fun a ρ => a.get ρ fun x => okW (isiW t x) ρ) := by
  obtain ⟨rfl, hg, hm, hd⟩ := blt_ok g h1
  obtain ⟨rfl, hg2, hm2, hd2⟩ := blt_ok g h2
  have hz : PE X (.Name t.name pz) (tC (.ty t.tn)) := pe_bltn hg2 hm2 (ty_boot nt) (v := .ty t.tn) rfl ty_nn hd2
  refine PE.weak (pe_callB (call_isT nt) hg hm (by decide +kernel) (pa_cons ha (pa_cons hz pa_nil rfl) (noStar_ok hs)) (by decide) hd (noStar_ok hs) rfl) fun σ H Q ⟨ρ, sr, q⟩ => ?_
  refine ⟨ρ, sr, q.bind.imp fun a ρ1 H1 s1 q1 v rv => ?_⟩
  obtain ⟨d, ed, q2⟩ := Rdg.getd (β := Unit) q1
  unfold isiW at q2
  by_cases hp : d.plain = true
  · rw [if_pos hp] at q2
    exact ⟨v, d, rfl, rv.rp s1.sr ed, hp, q2 H1 (Stp.refl _ _ _ s1.sr) _ (WR.dat (.bl _))⟩
  · rw [if_neg hp] at q2; exact q2.elim
end
end FF
end
section
set_option Elab.async false
set_option linter.all false
set_option maxRecDepth 100000
set_option maxHeartbeats 2000000
/-! HCF: a name that holds a def: the call; the walk over a tuple of defs. -/
namespace FF
open PySem PySem.Spec PyProof.Rows L2 PySem.W
theorem okF_star {Z : Ctx} : ∀ {fs : List Nat} {xs : List Expr}, okF Z fs xs = true → xs.all noStar = true
  | [], [], _ => rfl
  | f :: fs, x :: xs, h => by
    cases x <;> simp only [okF, Bool.and_eq_true] at h <;> first | (cases h; done) | skip
    rw [List.all_cons, okF_star h.2]; rfl
  | [], _ :: _, h => by simp [okF] at h
  | _ :: _, [], h => by simp [okF] at h
section
variable {Z : Ctx} {Γ : Nat → FunD} {fa xa : Nat → Addr} {Ex : Nat → Hp → Prop} {kk : Nat} {X : Cx}
/-- a call of a name that holds a def -/
theorem callvE (g : Gd Z Γ fa xa Ex kk X) {i : Nat} {fs : List Nat} {es : Es} {y : Str} {p pos : Pos} {args : List Expr} (h : (nmB Z i y && fnsB Z args.length fs && okEs Z es args && decide (esLen es ≠ 0)) = true) (ha : PA X args (rdAs X.K X.w fa Ex (evAs Γ es))) :
    PE X (.Call (.Name y p) args [] pos) (rdW X.K X.w fa Ex fun ρ => match ρ[i]? with
      | some (.fn f) => if fs.contains f = true then (evAs Γ es ρ).bind fun as ρ => doCall (Γ f) as ρ else .bad
      | _ => .bad) := by
  rw [Bool.and_eq_true, Bool.and_eq_true, Bool.and_eq_true] at h
  obtain ⟨⟨⟨h1, h2⟩, h3⟩, h4⟩ := h
  have h4 := of_decide_eq_true h4
  have n := nm_ok g h1
  obtain ⟨_, gr, gf⟩ := g.rf
  refine ⟨fun pins s σ H Q I q => ?_⟩
  obtain ⟨ρ, sr, q⟩ := q
  dsimp only at q
  split at q
  · rename_i f e
    by_cases hc : fs.contains f = true
    case neg => rw [if_neg hc] at q; exact q.elim
    rw [if_pos hc] at q
    have hm := List.all_eq_true.mp h2 f (List.contains_iff_mem.mp hc)
    split at hm
    · rename_i z m ez
      rw [Bool.and_eq_true] at hm
      have hm3 := of_decide_eq_true hm.2
      have hm := of_decide_eq_true hm.1
      subst hm
      have F := gf f z _ ez
      obtain ⟨fd, ps, F1, F2⟩ := F.ex
      rw [spX_lt hm3] at F1
      have sv : σ[i]? = some (some (.ref (fa f))) := by
        rcases sr.rw i _ e with w | ⟨v, e1, e2⟩
        · cases w
        · rw [e1]; rw [show v = .ref (fa f) from e2]
      cases args with
      | nil => rw [okEs_len h3] at h4; exact absurd rfl h4
      | cons a r =>
        cases es with
        | nil => exact absurd rfl h4
        | cons x es =>
          have hs := h3
          simp only [okEs, Bool.and_eq_true] at hs
          refine (pe_callL (i := i) (f := fa f) (dvs := []) F1 gr n.at_ n.vis F.keep F2 .nil g.pass1 ha n.nd n.nc (noStar_ok hs.1.2) (starPl hs.2)).run pins s σ H Q I ⟨sv, ?_⟩
          refine call_rdW (xa := xa) (F := Γ f) (fun ρ as ρ' q => ?_) ⟨ρ, sr, q⟩
          rw [evAs_len q]; exact okEs_len h3
    · cases hm
  · exact q.elim
theorem pa_fns (g : Gd Z Γ fa xa Ex kk X) : ∀ {fs : List Nat} {xs : List Expr}, okF Z fs xs = true → PA X xs (fun σ H Q => Q (fs.map fun f => .ref (fa f)) H)
  | [], [], _ => PA.weak pa_nil fun σ H Q q => q
  | f :: fs, x :: xs, h => by
    cases x <;> simp only [okF, Bool.and_eq_true] at h <;> first | (cases h; done) | skip
    obtain ⟨⟨h1, h2⟩, h3⟩ := h
    split at h2
    · rename_i z n e
      have := of_decide_eq_true h2
      subst this
      obtain ⟨_, _, gf⟩ := g.rf
      exact PA.weak (pa_cons (rd_fn1 g h1 (gf _ _ _ e)) (pa_fns g h3)) fun σ H Q q => q
    · cases h2
  | [], _ :: _, h => by simp [okF] at h
  | _ :: _, [], h => by simp [okF] at h
end
section
variable {X : Cx} {fa : Nat → Addr} {P : Nat → Prop} {Ex : Nat → Hp → Prop} {σ : L2.St} {ρ : Sl} {H : Hp}
theorem forf_core {i0 : Nat} {a : Addr} {fs : List Nat} {turn : Nat → Sl → SO} {body : Sl → SO} (np : ¬ P i0) (ht : ∀ f ρ, turn f ρ = if i0 < ρ.length then body (ρ.set i0 (.fn f)) else .bad) {D : Ends}
    (sr : SR X.K X.w fa σ ρ H) (hg : SqT X.K H a (fs.map fun f => .ref (fa f))) (q : RdS X.K X.w fa P Ex (forfLoop turn fs ρ) σ ρ H D) :
    ∃ W : Nat → Nat → L2.St → Hp → Prop, (∃ m, W 0 m σ H) ∧ ∀ i m σ H, W i m σ H →
      ((Itt X.K a).stop i H ∧ D.nx σ H) ∨ ((Itt X.K a).go i H ∧ ∃ N : L2.St → Hp → Prop, (∀ σ' H', N σ' H' → ∃ m', m' < m ∧ W (i + 1) m' σ' H') ∧ ∀ x H', (Itt X.K a).yld i H x H' → gName i0 x σ H' fun σ2 H2 => rdS X.K X.w fa P Ex body { D with nx := N, ct := N, bk := D.nx } σ2 H2) := by
  refine ⟨fun i m σ H => m = fs.length - i ∧ i ≤ fs.length ∧ ∃ ρ, SR X.K X.w fa σ ρ H ∧ SqT X.K H a (fs.map fun f => .ref (fa f)) ∧ RdS X.K X.w fa P Ex (forfLoop turn (fs.drop i) ρ) σ ρ H D, ⟨fs.length, rfl, Nat.zero_le _, ρ, sr, hg, q⟩, ?_⟩
  rintro i m σ H ⟨rfl, hi, ρ, sr, hg, q⟩
  by_cases hlt : i < fs.length
  · have hx : (fs.map fun f => (V.ref (fa f)))[i]? = some (.ref (fa fs[i])) := by rw [List.getElem?_map, List.getElem?_eq_getElem hlt]; rfl
    rw [List.drop_eq_getElem_cons hlt, forfLoop] at q
    refine .inr ⟨⟨_, _, hg, hx⟩, fun σ' H' => ∃ ρ', SR X.K X.w fa σ' ρ' H' ∧ SqT X.K H' a (fs.map fun f => .ref (fa f)) ∧ RdS X.K X.w fa P Ex (forfLoop turn (fs.drop (i + 1)) ρ') σ' ρ' H' D, fun σ' H' h => ⟨fs.length - (i + 1), by omega, rfl, hlt, h⟩, fun v H' y => ?_⟩
    obtain ⟨e, qv⟩ := y
    subst e
    have := qv _ hg
    rw [hx] at this
    cases this
    rw [ht] at q
    by_cases hl : i0 < ρ.length
    case neg => rw [if_neg hl] at q; exact q.elim
    rw [if_pos hl] at q
    have s12 : StpV X.K X.w fa P σ ρ _ (σ.set i0 (some (.ref (fa fs[i])))) (ρ.set i0 (.fn fs[i])) _ := (StpV.refl sr).put (w := .fn fs[i]) hl np rfl (by intro z; cases z) rfl fun a z => nomatch z
    have q1 := (RdS.seq q).later s12
    show rdS X.K X.w fa P Ex body _ _ _
    refine ⟨_, s12.st.sr, ?_⟩
    have hg2 := s12.st.mo.sqT hg
    cases e2 : body (ρ.set i0 (.fn fs[i])) with
    | bad => rw [e2] at q1; exact q1.elim
    | ex c ρ2 => rw [e2] at q1; exact q1
    | rt w ρ2 => rw [e2] at q1; exact q1
    | nx ρ2 =>
      rw [e2] at q1
      intro σ3 H3 s3
      rw [e2] at q
      have q2 : RdS X.K X.w fa P Ex (forfLoop turn (fs.drop (i + 1)) ρ2) σ ρ _ D := q
      exact ⟨ρ2, s3.st.sr, s3.st.mo.sqT hg2, q2.later (s12.trans s3)⟩
  · have e : i = fs.length := by omega
    subst e
    rw [List.drop_length] at q
    exact .inl ⟨⟨_, hg, by simp⟩, q σ H (.refl sr)⟩
theorem s_forf {i : Nat} {y : Str} {p pos tpos : Pos} {k : Nat} {fs : List Nat} {es : List Expr} {body : List Stmt} {fb : Sl → SO} (hp : PassesOwn (model X.prog X.w) X.A X.env X.xe) (hc : X.calm = true) (hN : X.N.Nodup) (hi : X.N[i]? = some y) (hx : Loc X.env.scope y)
    (hf : X.fn y = true ∨ X.env.scope.names.lookup y = some .local) (np : ¬ P i) (hl : fs.length ≤ 1000) (ha : PA X es (fun σ H Q => Q (fs.map fun f => .ref (fa f)) H)) (hb : PSs X body (rdS X.K X.w fa P Ex fb)) :
    PS X (.For (.Name y p) (.Tuple es k tpos) body [] pos) (rdS X.K X.w fa P Ex fun ρ => forfLoop (fun f ρ => if i < ρ.length then fb (ρ.set i (.fn f)) else .bad) fs ρ) := by
  refine PS.weak (ps_for hp hc (pi_tup (pe_tup ha)) (pg_name hN hi hx hf) hb (fun x => rfl)) fun D σ H ⟨ρ, sr, q⟩ => ?_
  refine ⟨by rw [List.length_map]; exact Nat.le_trans hl (by decide), fun a hn => ⟨a, rfl, ⟨_, .inl (.inl upd_same)⟩, ?_⟩⟩
  have s1 : Stp X.K X.w fa σ ρ H σ ρ (upd H a (.tup (fs.map fun f => .ref (fa f)))) := Stp.new sr hn
  exact forf_core np (fun _ _ => rfl) s1.sr (.inl (.inl upd_same)) (q.later (.of s1))
end
end FF
end
section
set_option Elab.async false
set_option linter.all false
set_option maxRecDepth 100000
set_option maxHeartbeats 2000000
/-! HCS: methods of texts, f-strings. -/
namespace FF
open PySem PySem.Spec PyProof.Rows L2 PySem.W
section
variable {K : PySem.W.Frag} {wd : World} {H : Hp}
theorem rds_strs : ∀ ys : List Str, RDs K wd H (ys.map V.str) (ys.map PyData.str)
  | [] => .nil
  | y :: ys => .cons (.str y) (rds_strs ys)
end
/-- what a text's method gives -/
def rMt (K : PySem.W.Frag) (wd : World) (m : Mt) : V → List V → Hp → VK → Prop := fun x xs H Q => ∃ z ds w, x = .str z ∧ RPs K wd H xs ds ∧ mtW m (.str z) ds = some w ∧ ∀ v H', NewR K wd H H' v w → Q v H'
theorem mt_imp {X : Cx} {id : String} {r r' : V → List V → Hp → VK → Prop} (h : MtR X id r) (f : ∀ x xs H Q, r' x xs H Q → r x xs H Q) : MtR X id r' := fun pins s σ H x xs v us Q I rx rs q => h pins s σ H x xs v us Q I rx rs (f x xs H Q q)
section
variable {X : Cx}
theorem m_split : MtR X "str.split" (rMt X.K X.w .split) := by
  refine mt_imp mt_split fun x xs H Q h => ?_
  obtain ⟨z, ds, w, rfl, r, e, q⟩ := h
  match ds, r, e with
  | [.str b], r, e =>
    obtain ⟨v, rfl, r1⟩ := r.one
    cases r1
    simp only [mtW] at e
    split at e
    · rename_i hc
      cases e
      exact ⟨z, b, rfl, rfl, hc.1, hc.2, fun p hp => q _ _ (.lst hp (rds_strs _))⟩
    · cases e
theorem m_join : MtR X "str.join" (rMt X.K X.w .join) := by
  refine mt_imp mt_join fun x xs H Q h => ?_
  obtain ⟨z, ds, w, rfl, r, e, q⟩ := h
  match ds, r, e with
  | [.list xs], r, e =>
    obtain ⟨v, rfl, a, us, rfl, h1, r1⟩ := r.one
    simp only [mtW] at e
    split at e
    · rename_i ys ey
      have := r1.strs ey
      subst this
      split at e
      · rename_i hc
        cases e
        exact ⟨z, a, ys, rfl, rfl, .inl h1.sq, hc, q _ _ (.same (.str _))⟩
      · cases e
    · cases e
theorem m_index : MtR X "str.index" (rMt X.K X.w .index) := by
  refine mt_imp mt_sindex fun x xs H Q h => ?_
  obtain ⟨z, ds, w, rfl, r, e, q⟩ := h
  match ds, r, e with
  | [.str b], r, e =>
    obtain ⟨v, rfl, r1⟩ := r.one
    cases r1
    simp only [mtW] at e
    split at e
    · rename_i k ek
      cases e
      unfold Txt.index0 at ek
      cases eo : Builtin.Str.occurrences z b 0 z.length 1 with
      | nil => rw [eo] at ek; cases ek
      | cons i rest =>
        rw [eo] at ek
        cases ek
        exact ⟨z, b, k, rest, rfl, rfl, eo, q _ _ (.same (.int _))⟩
    · cases e
theorem m_upper : MtR X "str.upper" (rMt X.K X.w .upper) := by
  refine mt_imp mt_upper fun x xs H Q h => ?_
  obtain ⟨z, ds, w, rfl, r, e, q⟩ := h
  match ds, r, e with
  | [], r, e =>
    simp only [mtW] at e
    split at e
    · rename_i hc
      cases e
      cases xs with
      | nil => exact ⟨z, rfl, rfl, hc, q _ _ (.same (.str _))⟩
      | cons _ _ => exact r.elim
    · cases e
end
section
variable {X : Cx} {fa : Nat → Addr} {Ex : Nat → Hp → Prop} {fA fB : Sl → O A} {o e : Expr} {m : Mt} {id : String} {name : Str} {apos cpos : Pos}
theorem rd_mt1 (slot : Slot "str" name id) (ty : typeOf (.builtin id) = pure (.type "method_descriptor")) (rule : MtR X id (rMt X.K X.w m)) (ho : PE X o (rdA X.K X.w fa Ex fA)) (he : PE X e (rdA X.K X.w fa Ex fB))
    (hs : starEach [e] X.env = [(false, eval e X.env)]) (hbase : attributeBase o name X.env (eval o X.env) = eval o X.env) (hline : (apos.endLine == cpos.line) = true) :
    PE X (.Call (.Attribute o name apos) [e] [] cpos) (rdW X.K X.w fa Ex fun ρ => (fA ρ).bind fun a ρ => match a with
      | .v (.str z) => ((fB ρ).bind fun a ρ => (O.ok [] ρ : O (List A)).bind fun as ρ => .ok (a :: as) ρ).bind fun as ρ => (match ats ρ as with
        | some xs => okW (mtW m (.str z) xs) ρ
        | none => .bad)
      | _ => .bad) := by
  refine PE.weak (pe_m1 slot ty rule ho he hs hbase hline) fun σ H Q ⟨ρ, sr, q⟩ => ?_
  refine ⟨ρ, sr, q.bind.imp fun a ρ1 H1 s1 q1 v rv => ?_⟩
  match a, q1, rv with
  | .v (.str z), q1, rv =>
    cases rv
    refine ⟨⟨z, rfl⟩, ρ1, s1.sr, (q1.bind.bind).imp fun b ρ2 H2 s2 q2 u ru => ?_⟩
    have q2 := q2 H2 (Stp.refl _ _ _ s2.sr)
    dsimp only at q2
    cases ea : ats ρ2 [b] with
    | none => rw [ea] at q2; exact q2.elim
    | some xs =>
      rw [ea] at q2
      obtain ⟨w, ew, q5⟩ := Rdg.end_ q2
      have ars : ARs (K := X.K) (wd := X.w) (fa := fa) σ H2 [u] [b] := ⟨ru, trivial⟩
      exact ⟨z, xs, w, rfl, ars.rps s2.sr ea, ew, fun y H' n => q5 H' (n.stp s2.sr) y (n.wr' (s1.trans s2))⟩
theorem rd_mt0 (slot : Slot "str" name id) (ty : typeOf (.builtin id) = pure (.type "method_descriptor")) (rule : MtR X id (rMt X.K X.w m)) (ho : PE X o (rdA X.K X.w fa Ex fA))
    (hbase : attributeBase o name X.env (eval o X.env) = eval o X.env) (hline : (apos.endLine == cpos.line) = true) :
    PE X (.Call (.Attribute o name apos) [] [] cpos) (rdW X.K X.w fa Ex fun ρ => (fA ρ).bind fun a ρ => match a with
      | .v (.str z) => (O.ok [] ρ : O (List A)).bind fun as ρ => (match ats ρ as with
        | some xs => okW (mtW m (.str z) xs) ρ
        | none => .bad)
      | _ => .bad) := by
  refine PE.weak (pe_m0 slot ty rule ho hbase hline) fun σ H Q ⟨ρ, sr, q⟩ => ?_
  refine ⟨ρ, sr, q.bind.imp fun a ρ1 H1 s1 q1 v rv => ?_⟩
  match a, q1, rv with
  | .v (.str z), q1, rv =>
    cases rv
    refine ⟨⟨z, rfl⟩, ?_⟩
    have q2 : Rdg (K := X.K) (wd := X.w) (fa := fa) Ex (okW (mtW m (.str z) []) ρ1) σ ρ1 H1 _ := q1
    obtain ⟨w, ew, q5⟩ := Rdg.end_ q2
    exact ⟨z, [], w, rfl, trivial, ew, fun y H' n => q5 H' (n.stp s1.sr) y (n.wr' s1)⟩
end
theorem base_ok {o : Expr} {n : Str} {env : Env} {whole : Sem Value} (h : baseB o = true) : attributeBase o n env whole = whole := by
  cases o <;> first | (cases h; done) | rfl
/-! ### f-strings -/
/-- the parts' texts, one behind the other -/
def rdJ (K : PySem.W.Frag) (wd : World) (fa : Nat → Addr) (Ex : Nat → Hp → Prop) (f : Sl → O Str) (σ : L2.St) (H : Hp) (Q : Str → Hp → Prop) : Prop :=
  ∃ ρ, SR K wd fa σ ρ H ∧ Rdg (K := K) (wd := wd) (fa := fa) Ex (f ρ) σ ρ H fun z _ H' => Q z H'
section
variable {K : PySem.W.Frag} {wd : World} {fa : Nat → Addr} {Ex : Nat → Hp → Prop} {f : Str → Sl → O Str} {ts : List TE} {acc : Str} {σ : L2.St} {ρ : Sl} {H : Hp} {Q : Str → Hp → Prop}
theorem len_le (a b : Str) : b.length ≤ (a ++ b).length := by rw [Str.length_append]; omega
theorem z1000 : 1000 ≤ sizeLine := by decide
theorem j_str {z : Str} (t2 : ∀ acc σ H Q, rdJ K wd fa Ex (f acc) σ H Q → tJs ts acc σ H Q) (sr : SR K wd fa σ ρ H) (q : Rdg (K := K) (wd := wd) (fa := fa) Ex (if (acc ++ z).length ≤ 1000 then f (acc ++ z) ρ else .bad) σ ρ H fun z _ H' => Q z H') :
    ∃ y : Str, V.str z = .str y ∧ (acc ++ y).length ≤ sizeLine ∧ tJs ts (acc ++ y) σ H Q := by
  by_cases hl : (acc ++ z).length ≤ 1000
  · rw [if_pos hl] at q
    exact ⟨z, rfl, Nat.le_trans hl z1000, t2 _ _ _ _ ⟨ρ, sr, q⟩⟩
  · rw [if_neg hl] at q; exact q.elim
theorem j_fmt {d : D} {v : V} (t2 : ∀ acc σ H Q, rdJ K wd fa Ex (f acc) σ H Q → tJs ts acc σ H Q) (sr : SR K wd fa σ ρ H) (rv : RD K wd H v d) (q : Rdg (K := K) (wd := wd) (fa := fa) Ex (match fmtOf d with
    | some y => if (acc ++ y).length ≤ 1000 then f (acc ++ y) ρ else .bad
    | none => .bad) σ ρ H fun z _ H' => Q z H') :
    (∃ y : Str, v = .str y ∧ y.length ≤ sizeLine ∧ ∃ y' : Str, V.str y = .str y' ∧ (acc ++ y').length ≤ sizeLine ∧ tJs ts (acc ++ y') σ H Q) ∨ ∃ i : Int, v = .int i ∧ i.natAbs.log2 < 1920 ∧ ∃ y' : Str, V.str (toString i) = .str y' ∧ (acc ++ y').length ≤ sizeLine ∧ tJs ts (acc ++ y') σ H Q := by
  cases d with
  | str y =>
    cases rv
    have q : Rdg (K := K) (wd := wd) (fa := fa) Ex (if (acc ++ y).length ≤ 1000 then f (acc ++ y) ρ else .bad) σ ρ H fun z _ H' => Q z H' := q
    refine .inl ⟨y, rfl, ?_, j_str t2 sr q⟩
    by_cases hl : (acc ++ y).length ≤ 1000
    · exact Nat.le_trans (len_le acc y) (Nat.le_trans hl z1000)
    · rw [if_neg hl] at q; exact q.elim
  | int i =>
    cases rv
    by_cases hi : i.natAbs.log2 < 1920
    · have e : fmtOf (.int i) = some (toString i) := if_pos hi
      rw [e] at q
      exact .inr ⟨i, rfl, hi, j_str t2 sr q⟩
    · have e : fmtOf (.int i) = none := if_neg hi
      rw [e] at q; exact q.elim
  | _ => exact q.elim
end
end FF
end
section
set_option Elab.async false
set_option linter.all false
set_option maxRecDepth 100000
set_option maxHeartbeats 2000000
/-! GE: enumerate(zip(a list, a tuple)). -/
namespace EZ
open PySem PySem.Spec PyProof.Rows L2
open PySem.W (kdx_alive)
/-- a zip, whatever it remembers of the tuple that it gave out -/
abbrev IsZA (h : Heap) (z TI TO : Addr) (v : Value) (f : Bool) : Prop :=
  h.get? z = some { cls := .type "zip", dict := none, data := .fields #[v, .bool f, .bool false, .ref TI, .ref TO], slots := #[] }
def HeldV (v : Value) : Prop := v = .none ∨ ∃ T : Nat, v = rawInt (T : Int)
section
variable {prog : Program} {w : World} {A : Around} {E : Value → Shared → Prop} {s : Shared}
theorem alive_any {a : Addr} {Q : Option Obj → Shared → Prop} (h : Q (s.heap.get? a) s) : wpAny (model prog w) A (loadIfAlive a) Q E s := fun _ _ _ => h
theorem zfree {z TI TO : Addr} {v : Value} {f : Bool} {Q : Bool → Shared → Prop} (hv : HeldV v) (gz : IsZA s.heap z TI TO v f) (q1 : Q true s)
    (q2 : ∀ h', IsZA h' z TI TO v true → Heap.SameBut z s.heap h' → Q false { s with heap := h' }) : wpAny (model prog w) A (Builtin.SmallTypes.ownedTupleIsFree (.ref z)) Q E s := by
  unfold Builtin.SmallTypes.ownedTupleIsFree
  rcases hv with rfl | ⟨T, rfl⟩
  · exact wpAny_bind (wpAny_field gz rfl (x := .none) rfl (wpAny_pure q1))
  · refine wpAny_bind (wpAny_field gz rfl (x := rawInt (T : Int)) rfl ?_)
    show wpAny _ _ (loadIfAlive (((T : Nat) : Int).toNat) >>= _) _ _ _
    rw [Int.toNat_natCast]
    refine wpAny_bind (alive_any ?_)
    cases q : s.heap.get? T with
    | none => simp only [Option.isNone_none, if_true]; exact wpAny_pure q1
    | some oT =>
      simp only [Option.isNone_some, Bool.false_eq_true, if_false]
      refine wpAny_bind (wpAny_field gz rfl (x := .bool f) rfl ?_)
      cases f with
      | true =>
        rw [if_neg (show ¬ ((Value.bool true != Value.bool true) = true) from Bool.false_ne_true)]
        exact wpAny_pure (q2 s.heap gz (Heap.SameBut.refl _ _))
      | false =>
        rw [if_pos (show (Value.bool false != Value.bool true) = true from rfl)]
        exact wpAny_bind (wpAny_setField_rec gz (by simp) fun k1 kz1 ks1 => wpAny_pure (q2 k1 kz1 ks1))
end
section
variable {prog : Program} {w : World} {A : Around} {E : Value → Shared → Prop} {s : Shared} {z TI TO i1 i2 : Addr} {fp1 fp2 : List Addr} {n1 n2 i : Nat} {P1 P2 : Nat → Value → Prop} {St1 St2 : Nat → Heap → Prop} {a1 a2 v : Value} {f : Bool}
theorem zn_item {Q : Value → Shared → Prop} (S : ZipSep2 z TI TO i1 i2 fp1 fp2) (D1 : Draws prog w A i1 fp1 n1 P1 St1) (D2 : Draws prog w A i2 fp2 n2 P2 St2) (hv : HeldV v)
    (gz : IsZA s.heap z TI TO v f) (gI : IsTupOf2 s.heap TI (.ref i1) (.ref i2)) (gO : IsTupOf2 s.heap TO a1 a2) (t1 : St1 i s.heap) (t2 : St2 i s.heap) (l1 : i < n1) (l2 : i < n2)
    (hQ : ∀ x1 x2 h' tk v' f' b1 b2, P1 i x1 → P2 i x2 → HeldV v' → IsZA h' z TI TO v' f' → IsTupOf2 h' TO b1 b2 → St1 (i + 1) h' → St2 (i + 1) h' → IsTupOf2 h' s.heap.objs.size x1 x2 → h'.objs.size = s.heap.objs.size + 1 →
      (∀ c o, c ≠ z → c ≠ TO → c ≠ i1 → c ≠ i2 → s.heap.get? c = some o → h'.get? c = some o) → Q (.ref s.heap.objs.size) { s with heap := h', toks := tk }) :
    wpAny (model prog w) A (Builtin.«zip.__next__» ⟨[.ref z], []⟩) (fun fin s' => ∃ u, fin = .done (.ret u) ∧ Q u s') E s := by
  obtain ⟨hp, ge, dr, k0, os⟩ := s
  show wpAny _ _ (field (.ref z) 2 >>= _) _ _ _
  refine wpAny_bind (wpAny_field gz rfl (x := .bool false) rfl ?_)
  show wpAny _ _ (field (.ref z) 3 >>= _) _ _ _
  refine wpAny_bind (wpAny_field gz rfl (x := .ref TI) rfl ?_)
  refine wpAny_bind (wpAny_seqItems gI rfl ?_)
  show wpAny _ _ (Builtin.SmallTypes.ownedTupleIsFree (.ref z) >>= _) _ _ _
  refine wpAny_bind (zfree hv gz ?_ fun e0 ez0 es0 => ?_)
  · simp only [if_true]
    refine wpAny_bind (wpAny_rule ?_)
    refine wpAny_bind (wpAny_field gz rfl (x := .ref TO) rfl ?_)
    refine wpAny_bind (wpAny_setField_rec gz (by simp) fun e0 ez0 es0 => ?_)
    replace ez0 : IsZA e0 z TI TO .ellipsis f := ez0
    replace es0 : Heap.SameBut z hp e0 := es0
    refine wpAny_bind ?_
    simp only [List.zipIdx_cons, List.zipIdx_nil, List.forIn_cons, List.forIn_nil]
    refine wpAny_bind (wpAny_bind (wpAny_onRaise ?_))
    show wpAny _ _ (Builtin.SmallTypes.nextOf (.ref i1) >>= _) _ _ ⟨e0, ge, dr, k0, os⟩
    refine wpAny_bind (D1.item i _ _ _ l1 (D1.over t1 es0 S.zf1) fun x1 e1 k1 y1 u1 es1 => wpAny_pure ?_)
    replace es1 : Heap.SameBut i1 e0 e1 := es1
    have eO1 : IsTupOf2 e1 TO a1 a2 := es1.extBut _ _ S.Ti1 (es0.extBut _ _ S.TOz gO)
    refine wpAny_bind (wpAny_seqItems (s := ⟨e1, ge, dr, k1, os⟩) eO1 rfl ?_)
    refine wpAny_bind (updateSeq_IsTupOf2 (s := ⟨e1, ge, dr, k1, os⟩) eO1 fun e2 eO2 es2 => ?_)
    replace eO2 : IsTupOf2 e2 TO x1 a2 := eO2
    replace es2 : Heap.SameBut TO e1 e2 := es2
    refine wpAny_bind (wpAny_letGo (wpAny_pure ?_))
    refine wpAny_bind (wpAny_bind (wpAny_onRaise ?_))
    show wpAny _ _ (Builtin.SmallTypes.nextOf (.ref i2) >>= _) _ _ ⟨e2, ge, dr, k1, os⟩
    refine wpAny_bind (D2.item i _ _ _ l2 (D2.over (D2.over (D2.over t2 es0 S.zf2) es1 S.sep1_2) es2 S.Tf2) fun x2 e3 k2 y2 u2 es3 => wpAny_pure ?_)
    replace es3 : Heap.SameBut i2 e2 e3 := es3
    have eO3 : IsTupOf2 e3 TO x1 a2 := es3.extBut _ _ S.Ti2 eO2
    refine wpAny_bind (wpAny_seqItems (s := ⟨e3, ge, dr, k2, os⟩) eO3 rfl ?_)
    refine wpAny_bind (updateSeq_IsTupOf2 (s := ⟨e3, ge, dr, k2, os⟩) eO3 fun e4 eO4 es4 => ?_)
    replace eO4 : IsTupOf2 e4 TO x1 x2 := eO4
    replace es4 : Heap.SameBut TO e3 e4 := es4
    refine wpAny_bind (wpAny_letGo (wpAny_pure (wpAny_pure ?_)))
    refine wpAny_bind (wpAny_seqItems (s := ⟨e4, ge, dr, k2, os⟩) eO4 rfl ?_)
    refine wpAny_bind (wpAny_newTuple ?_)
    have sz4 : e4.objs.size = hp.objs.size := by rw [es4.1, es3.1, es2.1, es1.1, es0.1]
    have ez4 : IsZA e4 z TI TO .ellipsis f := (es4.extBut _ _ S.TOz.symm (es3.extBut _ _ S.zi2 (es2.extBut _ _ S.TOz.symm (es1.extBut _ _ S.zi1 ez0))))
    have kp4 : ∀ c o, c ≠ z → c ≠ TO → c ≠ i1 → c ≠ i2 → hp.get? c = some o → e4.get? c = some o := fun c o cz cT c1 c2 e =>
      (es4.extBut _ _ cT (es3.extBut _ _ c2 (es2.extBut _ _ cT (es1.extBut _ _ c1 (es0.extBut _ _ cz e)))))
    have j1 : St1 (i + 1) e4 := (D1.over (D1.over (D1.over u1 es2 S.Tf1) es3 S.sep2_1) es4 S.Tf1)
    have j2 : St2 (i + 1) e4 := (D2.over u2 es4 S.Tf2)
    have zlt : z < e4.objs.size := Heap.lt_size ez4
    show wpAny _ _ (Builtin.SmallTypes.ownedTupleHandOut (.ref z) (.ref e4.objs.size) >>= _) _ _ ⟨e4.push { cls := .type "tuple", data := .seq #[x1, x2] }, ge, dr, k2, os⟩
    refine wpAny_bind ?_
    unfold Builtin.SmallTypes.ownedTupleHandOut
    have ez5 : IsZA (e4.push { cls := .type "tuple", data := .seq #[x1, x2] }) z TI TO .ellipsis f := Heap.get?_push_of_some _ ez4
    refine wpAny_bind (wpAny_setField_rec ez5 (by simp) fun e6 ez6 es6 => ?_)
    replace ez6 : IsZA e6 z TI TO (rawInt e4.objs.size) f := ez6
    refine wpAny_setField_rec ez6 (by simp) fun e7 ez7 es7 => ?_
    replace ez7 : IsZA e7 z TI TO (rawInt e4.objs.size) false := ez7
    replace es6 : Heap.SameBut z (e4.push { cls := .type "tuple", data := .seq #[x1, x2] }) e6 := es6
    replace es7 : Heap.SameBut z e6 e7 := es7
    have up : ∀ c o, c ≠ z → e4.get? c = some o → e7.get? c = some o := fun c o c1 e => es7.extBut _ _ c1 (es6.extBut _ _ c1 (Heap.get?_push_of_some _ e))
    have eT7 : IsTupOf2 e7 e4.objs.size x1 x2 := es7.extBut _ _ (Nat.ne_of_gt zlt) (es6.extBut _ _ (Nat.ne_of_gt zlt) (Heap.get?_push_size _ rfl))
    have sz7 : e7.objs.size = e4.objs.size + 1 := by rw [es7.1, es6.1, Heap.size_push]
    rw [sz4] at ez7 eT7 sz7
    refine wpAny_pure ⟨_, rfl, ?_⟩
    show Q (.ref e4.objs.size) ⟨e7, ge, dr, k2, os⟩
    rw [sz4]
    exact hQ x1 x2 e7 k2 _ _ _ _ y1 y2 (.inr ⟨_, rfl⟩) ez7 (up _ _ S.TOz eO4) (D1.frame _ _ _ j1 fun b hb o e => up b o (fun q => S.zf1 (q ▸ hb)) e) (D2.frame _ _ _ j2 fun b hb o e => up b o (fun q => S.zf2 (q ▸ hb)) e) eT7 sz7 fun c o cz cT c1 c2 e => up c o cz (kp4 c o cz cT c1 c2 e)
  · replace es0 : Heap.SameBut z hp e0 := es0
    simp only [Bool.false_eq_true, if_false]
    refine wpAny_bind ?_
    rw [← Array.forIn_toList]
    simp only [List.forIn_cons, List.forIn_nil]
    refine wpAny_bind (wpAny_bind (wpAny_holding ?_))
    show wpAny _ _ (Builtin.SmallTypes.nextOf (.ref i1) >>= _) _ _ ⟨e0, ge, dr, k0, os⟩
    refine wpAny_bind (D1.item i _ _ _ l1 (D1.over t1 es0 S.zf1) fun x1 e1 k1 y1 u1 es1 => wpAny_pure ?_)
    replace es1 : Heap.SameBut i1 e0 e1 := es1
    refine wpAny_pure ?_
    refine wpAny_bind (wpAny_bind (wpAny_holding ?_))
    show wpAny _ _ (Builtin.SmallTypes.nextOf (.ref i2) >>= _) _ _ ⟨e1, ge, dr, k1, os⟩
    refine wpAny_bind (D2.item i _ _ _ l2 (D2.over (D2.over t2 es0 S.zf2) es1 S.sep1_2) fun x2 e3 k2 y2 u2 es3 => wpAny_pure ?_)
    replace es3 : Heap.SameBut i2 e1 e3 := es3
    refine wpAny_pure (wpAny_pure ?_)
    show wpAny _ _ (newTuple [x1, x2] >>= _) _ _ ⟨e3, ge, dr, k2, os⟩
    refine wpAny_bind (wpAny_newTuple ?_)
    have sz3 : e3.objs.size = hp.objs.size := by rw [es3.1, es1.1, es0.1]
    have ez3 : IsZA e3 z TI TO v true := es3.extBut _ _ S.zi2 (es1.extBut _ _ S.zi1 ez0)
    have kp3 : ∀ c o, c ≠ z → c ≠ i1 → c ≠ i2 → hp.get? c = some o → e3.get? c = some o := fun c o cz c1 c2 e => es3.extBut _ _ c2 (es1.extBut _ _ c1 (es0.extBut _ _ cz e))
    have up : ∀ c o, e3.get? c = some o → (e3.push { cls := .type "tuple", data := .seq #[x1, x2] }).get? c = some o := fun c o e => Heap.get?_push_of_some _ e
    refine wpAny_pure ⟨_, rfl, ?_⟩
    show Q (.ref e3.objs.size) ⟨e3.push { cls := .type "tuple", data := .seq #[x1, x2] }, ge, dr, k2, os⟩
    have eT : IsTupOf2 (e3.push { cls := .type "tuple", data := .seq #[x1, x2] }) e3.objs.size x1 x2 := Heap.get?_push_size _ rfl
    have szp : (e3.push { cls := .type "tuple", data := .seq #[x1, x2] }).objs.size = e3.objs.size + 1 := Heap.size_push ..
    rw [sz3] at eT szp ⊢
    exact hQ x1 x2 _ k2 _ _ _ _ y1 y2 hv (up _ _ ez3) (up _ _ (kp3 _ _ S.TOz S.Ti1 S.Ti2 gO)) (D1.frame _ _ _ (D1.over u1 es3 S.sep2_1) fun b _ o e => up b o e) (D2.frame _ _ _ u2 fun b _ o e => up b o e) eT szp fun c o cz _ c1 c2 e => up c o (kp3 c o cz c1 c2 e)
end
end EZ
end
section
set_option Elab.async false
set_option linter.all false
set_option maxRecDepth 100000
set_option maxHeartbeats 2000000
/-! GE2: enumerate(zip(a list, a tuple)): the end; the step of enumerate over any inner iterator. -/
namespace EZ
open PySem PySem.Spec PyProof.Rows L2
open PySem.W (kdx_alive)
section
variable {prog : Program} {w : World} {A : Around} {E : Value → Shared → Prop} {s : Shared} {z TI TO i1 i2 : Addr} {fp1 fp2 : List Addr} {n1 n2 i : Nat} {P1 P2 : Nat → Value → Prop} {St1 St2 : Nat → Heap → Prop} {a1 a2 v : Value} {f : Bool}
theorem zn_end {Q : Fin → Shared → Prop} (S : ZipSep2 z TI TO i1 i2 fp1 fp2) (D1 : Draws prog w A i1 fp1 n1 P1 St1) (D2 : Draws prog w A i2 fp2 n2 P2 St2) (hv : HeldV v)
    (gz : IsZA s.heap z TI TO v f) (gI : IsTupOf2 s.heap TI (.ref i1) (.ref i2)) (gO : IsTupOf2 s.heap TO a1 a2) (t1 : St1 i s.heap) (t2 : St2 i s.heap) (hend : n1 ≤ i ∨ n2 ≤ i)
    (dn1 : n1 ≤ i → ∀ (s : Shared) (Q E : Value → Shared → Prop), St1 i s.heap → (∀ h' e, Heap.ExtBut i1 s.heap h' → (∃ o, h'.get? e = some o ∧ o.cls = .type "StopIteration") → E (.ref e) { s with heap := h' }) → wpAny (model prog w) A (Builtin.SmallTypes.nextOf (.ref i1)) Q E s)
    (dn2 : n2 ≤ i → ∀ (s : Shared) (Q E : Value → Shared → Prop), St2 i s.heap → (∀ h' e, Heap.ExtBut i2 s.heap h' → (∃ o, h'.get? e = some o ∧ o.cls = .type "StopIteration") → E (.ref e) { s with heap := h' }) → wpAny (model prog w) A (Builtin.SmallTypes.nextOf (.ref i2)) Q E s)
    (hE : ∀ h' tk e, (∀ c o, c ≠ z → c ≠ TO → c ≠ i1 → c ≠ i2 → s.heap.get? c = some o → h'.get? c = some o) → (∃ o, h'.get? e = some o ∧ o.cls = .type "StopIteration") → E (.ref e) { s with heap := h', toks := tk }) :
    wpAny (model prog w) A (Builtin.«zip.__next__» ⟨[.ref z], []⟩) Q E s := by
  obtain ⟨hp, ge, dr, k0, os⟩ := s
  show wpAny _ _ (field (.ref z) 2 >>= _) _ _ _
  refine wpAny_bind (wpAny_field gz rfl (x := .bool false) rfl ?_)
  show wpAny _ _ (field (.ref z) 3 >>= _) _ _ _
  refine wpAny_bind (wpAny_field gz rfl (x := .ref TI) rfl ?_)
  refine wpAny_bind (wpAny_seqItems gI rfl ?_)
  show wpAny _ _ (Builtin.SmallTypes.ownedTupleIsFree (.ref z) >>= _) _ _ _
  refine wpAny_bind (zfree hv gz ?_ fun e0 ez0 es0 => ?_)
  · simp only [if_true]
    refine wpAny_bind (wpAny_rule ?_)
    refine wpAny_bind (wpAny_field gz rfl (x := .ref TO) rfl ?_)
    refine wpAny_bind (wpAny_setField_rec gz (by simp) fun e0 ez0 es0 => ?_)
    replace ez0 : IsZA e0 z TI TO .ellipsis f := ez0
    replace es0 : Heap.SameBut z hp e0 := es0
    refine wpAny_bind ?_
    simp only [List.zipIdx_cons, List.zipIdx_nil, List.forIn_cons, List.forIn_nil]
    refine wpAny_bind (wpAny_bind (wpAny_onRaise ?_))
    show wpAny _ _ (Builtin.SmallTypes.nextOf (.ref i1) >>= _) _ _ ⟨e0, ge, dr, k0, os⟩
    by_cases hlt1 : i < n1
    · refine wpAny_bind (D1.item i _ _ _ hlt1 (D1.over t1 es0 S.zf1) fun x1 e1 k1 y1 u1 es1 => wpAny_pure ?_)
      replace es1 : Heap.SameBut i1 e0 e1 := es1
      have eO1 : IsTupOf2 e1 TO a1 a2 := es1.extBut _ _ S.Ti1 (es0.extBut _ _ S.TOz gO)
      refine wpAny_bind (wpAny_seqItems (s := ⟨e1, ge, dr, k1, os⟩) eO1 rfl ?_)
      refine wpAny_bind (updateSeq_IsTupOf2 (s := ⟨e1, ge, dr, k1, os⟩) eO1 fun e2 eO2 es2 => ?_)
      replace eO2 : IsTupOf2 e2 TO x1 a2 := eO2
      replace es2 : Heap.SameBut TO e1 e2 := es2
      refine wpAny_bind (wpAny_letGo (wpAny_pure ?_))
      have hi2 : n2 ≤ i := by omega
      refine wpAny_bind (wpAny_bind (wpAny_onRaise ?_))
      show wpAny _ _ (Builtin.SmallTypes.nextOf (.ref i2) >>= _) _ _ ⟨e2, ge, dr, k1, os⟩
      refine wpAny_bind (dn2 hi2 ⟨e2, ge, dr, k1, os⟩ _ _ (D2.over (D2.over (D2.over t2 es0 S.zf2) es1 S.sep1_2) es2 S.Tf2) fun q e hq he => ?_)
      replace hq : Heap.ExtBut i2 e2 q := hq
      obtain ⟨oe, hoe, hce⟩ := he
      replace hoe : q.get? e = some oe := hoe
      have hzq : IsZA q z TI TO .ellipsis f := hq _ _ S.zi2 (es2.extBut _ _ S.TOz.symm (es1.extBut _ _ S.zi1 ez0))
      have hez : e ≠ z := fun x => by subst x; rw [hzq] at hoe; cases hoe; simp at hce
      refine wpAny_setField_rec (s := ⟨q, ge, dr, k1, os⟩) hzq (by simp) fun q' _ hq' => ?_
      replace hq' : Heap.SameBut z q q' := hq'
      exact hE q' k1 e (fun c o cz cT c1 c2 x => hq'.extBut _ _ cz (hq _ _ c2 (es2.extBut _ _ cT (es1.extBut _ _ c1 (es0.extBut _ _ cz x))))) ⟨oe, hq'.extBut _ _ hez hoe, hce⟩
    · have hi1 : n1 ≤ i := by omega
      refine wpAny_bind (dn1 hi1 ⟨e0, ge, dr, k0, os⟩ _ _ (D1.over t1 es0 S.zf1) fun q e hq he => ?_)
      replace hq : Heap.ExtBut i1 e0 q := hq
      obtain ⟨oe, hoe, hce⟩ := he
      replace hoe : q.get? e = some oe := hoe
      have hzq : IsZA q z TI TO .ellipsis f := hq _ _ S.zi1 ez0
      have hez : e ≠ z := fun x => by subst x; rw [hzq] at hoe; cases hoe; simp at hce
      refine wpAny_setField_rec (s := ⟨q, ge, dr, k0, os⟩) hzq (by simp) fun q' _ hq' => ?_
      replace hq' : Heap.SameBut z q q' := hq'
      exact hE q' k0 e (fun c o cz cT c1 c2 x => hq'.extBut _ _ cz (hq _ _ c1 (es0.extBut _ _ cz x))) ⟨oe, hq'.extBut _ _ hez hoe, hce⟩
  · replace es0 : Heap.SameBut z hp e0 := es0
    simp only [Bool.false_eq_true, if_false]
    refine wpAny_bind ?_
    rw [← Array.forIn_toList]
    simp only [List.forIn_cons, List.forIn_nil]
    refine wpAny_bind (wpAny_bind (wpAny_holding ?_))
    show wpAny _ _ (Builtin.SmallTypes.nextOf (.ref i1) >>= _) _ _ ⟨e0, ge, dr, k0, os⟩
    by_cases hlt1 : i < n1
    · refine wpAny_bind (D1.item i _ _ _ hlt1 (D1.over t1 es0 S.zf1) fun x1 e1 k1 y1 u1 es1 => wpAny_pure ?_)
      replace es1 : Heap.SameBut i1 e0 e1 := es1
      refine wpAny_pure ?_
      have hi2 : n2 ≤ i := by omega
      refine wpAny_bind (wpAny_bind (wpAny_holding ?_))
      show wpAny _ _ (Builtin.SmallTypes.nextOf (.ref i2) >>= _) _ _ ⟨e1, ge, dr, k1, os⟩
      refine wpAny_bind (dn2 hi2 ⟨e1, ge, dr, k1, os⟩ _ _ (D2.over (D2.over t2 es0 S.zf2) es1 S.sep1_2) fun q e hq he => ?_)
      replace hq : Heap.ExtBut i2 e1 q := hq
      exact hE q k1 e (fun c o cz cT c1 c2 x => hq _ _ c2 (es1.extBut _ _ c1 (es0.extBut _ _ cz x))) he
    · have hi1 : n1 ≤ i := by omega
      refine wpAny_bind (dn1 hi1 ⟨e0, ge, dr, k0, os⟩ _ _ (D1.over t1 es0 S.zf1) fun q e hq he => ?_)
      replace hq : Heap.ExtBut i1 e0 q := hq
      exact hE q k0 e (fun c o cz cT c1 c2 x => hq _ _ c1 (es0.extBut _ _ cz x)) he
end
section
variable {prog : Program} {w : World} {A : Around} {E : Value → Shared → Prop} {s : Shared}
/-- the inner iterator's next, out of its builtin -/
theorem nextOf_zip {z TI TO : Addr} {v : Value} {f : Bool} {Q : Value → Shared → Prop} (gz : IsZA s.heap z TI TO v f)
    (h : wpAny (model prog w) A.in1 (Builtin.«zip.__next__» ⟨[.ref z], []⟩) (fun fin s' => ∃ u, fin = .done (.ret u) ∧ Q u s') E s) : wpAny (model prog w) A (Builtin.SmallTypes.nextOf (.ref z)) Q E s := by
  have hT : s.TypeIs (.ref z) "zip" := ⟨_, gz, rfl⟩
  unfold Builtin.SmallTypes.nextOf
  refine wpAny_bind (wpAny_callSpecial?_slot (name := Str.ofString "__next__") hT F.slot_zip_next
    (wpAny_call_entry F.slot_zip_next hT F.entry_zip_next (wpAny_mono h (fun fin s' hq => ?_) fun _ _ he => he) (F.args_zip_next_1 _)))
  obtain ⟨u, rfl, q⟩ := hq
  exact ⟨u, rfl, wpAny_pure q⟩
/-- enumerate's next, over an inner iterator that may make objects -/
theorem en_item {e it : Addr} {c : Int} {old : Value} {R : Value → Heap → Nat → Prop} {Q : Value → Shared → Prop} (he : IsEnum s.heap e it c old)
    (inner : ∀ (Q' : Value → Shared → Prop), (∀ x hA tk, R x hA tk → IsEnum hA e it c old → Q' x { s with heap := hA, toks := tk }) → wpAny (model prog w) A (Builtin.SmallTypes.nextOf (.ref it)) Q' E s)
    (hQ : ∀ x hA tk h', R x hA tk → IsEnumOut h' e it (c + 1) x hA.objs.size → h'.get? hA.objs.size = some { cls := .type "tuple", data := .seq #[.int c tk, x] } → h'.objs.size = hA.objs.size + 1 →
      (∀ b o, b ≠ e → hA.get? b = some o → h'.get? b = some o) → Q (.ref hA.objs.size) { s with heap := h', toks := tk + 1 }) :
    wpAny (model prog w) A (Builtin.«enumerate.__next__» ⟨[.ref e], []⟩) (fun fin s' => ∃ v, fin = .done (.ret v) ∧ Q v s') E s := by
  obtain ⟨hp, g, d, tk₀, os⟩ := s
  show wpAny _ _ (field (.ref e) 2 >>= _) _ _ _
  refine wpAny_bind (wpAny_field he rfl (x := .ref it) rfl ?_)
  refine wpAny_bind (inner _ fun x h₁ tk hR he₁ => ?_)
  replace he₁ : IsEnum h₁ e it c old := he₁
  show wpAny _ _ (field (.ref e) 3 >>= _) _ _ ⟨h₁, g, d, tk, os⟩
  refine wpAny_bind (wpAny_field he₁ rfl (x := rawInt c) rfl ?_)
  show wpAny _ _ (field (.ref e) 4 >>= _) _ _ ⟨h₁, g, d, tk, os⟩
  refine wpAny_bind (wpAny_field he₁ rfl (x := .none) rfl ?_)
  show wpAny _ _ (mkInt c >>= _) _ _ ⟨h₁, g, d, tk, os⟩
  refine wpAny_bind (wpAny_mkInt ?_)
  show wpAny _ _ (setField (.ref e) 3 (rawInt (c + 1)) >>= _) _ _ ⟨h₁, g, d, tk + 1, os⟩
  refine wpAny_bind (wpAny_setField_rec he₁ (by simp) fun h₂ he₂ hs₂ => ?_)
  replace hs₂ : Heap.SameBut e h₁ h₂ := hs₂
  replace he₂ : IsEnum h₂ e it (c + 1) old := he₂
  show wpAny _ _ (setField (.ref e) 4 .none >>= _) _ _ ⟨h₂, g, d, tk + 1, os⟩
  refine wpAny_bind (wpAny_setField_rec he₂ (by simp) fun h₃ he₃ hs₃ => ?_)
  replace hs₃ : Heap.SameBut e h₂ h₃ := hs₃
  replace he₃ : IsEnum h₃ e it (c + 1) old := he₃
  show wpAny _ _ (newTuple [.int c tk, x] >>= _) _ _ ⟨h₃, g, d, tk + 1, os⟩
  refine wpAny_bind (wpAny_newTuple ?_)
  have he₄ : IsEnum (h₃.push { cls := .type "tuple", data := .seq #[.int c tk, x] }) e it (c + 1) old := Heap.get?_push_of_some _ he₃
  generalize hh₄ : h₃.push { cls := .type "tuple", data := .seq #[.int c tk, x] } = h₄ at he₄
  have hsz : h₃.objs.size = h₁.objs.size := by rw [hs₃.1, hs₂.1]
  have hel : e < h₁.objs.size := Heap.lt_size he₁
  have ht₄ : h₄.get? h₁.objs.size = some { cls := .type "tuple", data := .seq #[.int c tk, x] } := by rw [← hh₄, ← hsz]; exact Heap.get?_push_size _ rfl
  have hz₄ : h₄.objs.size = h₁.objs.size + 1 := by rw [← hh₄, Heap.size_push, hsz]
  have hk₄ : ∀ b o, b ≠ e → h₁.get? b = some o → h₄.get? b = some o := fun b o hbe hb => by
    rw [← hh₄]; exact Heap.get?_push_of_some _ (hs₃.extBut b o hbe (hs₂.extBut b o hbe hb))
  show wpAny _ _ (Builtin.SmallTypes.ownedTupleIsFree (.ref e) >>= _) _ _ ⟨h₄, g, d, tk + 1, os⟩
  rw [hsz]
  clear hh₄ he₃ hs₃ he₂ hs₂ hsz h₃ h₂
  refine wpAny_bind ?_
  · unfold Builtin.SmallTypes.ownedTupleIsFree
    refine wpAny_bind (wpAny_field he₄ rfl (x := .none) rfl (wpAny_pure ?_))
    simp only [if_true]
    refine wpAny_bind (wpAny_rule ?_)
    refine wpAny_bind (wpAny_field he₄ rfl (x := old) rfl ?_)
    refine wpAny_bind (wpAny_setField_rec he₄ (by simp) fun h₅ he₅ hs₅ => ?_)
    replace hs₅ : Heap.SameBut e h₄ h₅ := hs₅
    replace he₅ : IsEnum h₅ e it (c + 1) x := he₅
    show wpAny _ _ (Builtin.SmallTypes.ownedTupleHandOut (.ref e) (.ref h₁.objs.size) >>= _) _ _ ⟨h₅, g, d, tk + 1, os⟩
    refine wpAny_bind ?_
    · unfold Builtin.SmallTypes.ownedTupleHandOut
      refine wpAny_bind (wpAny_setField_rec he₅ (by simp) fun h₆ he₆ hs₆ => ?_)
      replace hs₆ : Heap.SameBut e h₅ h₆ := hs₆
      replace he₆ : IsEnumOut h₆ e it (c + 1) x h₁.objs.size := he₆
      refine wpAny_setField_rec he₆ (by simp) fun h₇ he₇ hs₇ => ?_
      replace hs₇ : Heap.SameBut e h₆ h₇ := hs₇
      replace he₇ : IsEnumOut h₇ e it (c + 1) x h₁.objs.size := he₇
      refine wpAny_bind (wpAny_letGo (wpAny_pure ⟨_, rfl, hQ x h₁ tk h₇ hR he₇ ?_ ?_ ?_⟩))
      · exact hs₇.extBut _ _ (Nat.ne_of_gt hel) (hs₆.extBut _ _ (Nat.ne_of_gt hel) (hs₅.extBut _ _ (Nat.ne_of_gt hel) ht₄))
      · rw [hs₇.1, hs₆.1, hs₅.1, hz₄]
      · exact fun b o hbe hb => hs₇.extBut b o hbe (hs₆.extBut b o hbe (hs₅.extBut b o hbe (hk₄ b o hbe hb)))
theorem pyNext_en_item {e it : Addr} {c : Int} {old : Value} {R : Value → Heap → Nat → Prop} {Q : Option Value → Shared → Prop} (he : IsEnum s.heap e it c old)
    (inner : ∀ (E : Value → Shared → Prop) (Q' : Value → Shared → Prop), (∀ x hA tk, R x hA tk → IsEnum hA e it c old → Q' x { s with heap := hA, toks := tk }) → wpAny (model prog w) A.in1 (Builtin.SmallTypes.nextOf (.ref it)) Q' E s)
    (hQ : ∀ x hA tk h', R x hA tk → IsEnumOut h' e it (c + 1) x hA.objs.size → h'.get? hA.objs.size = some { cls := .type "tuple", data := .seq #[.int c tk, x] } → h'.objs.size = hA.objs.size + 1 →
      (∀ b o, b ≠ e → hA.get? b = some o → h'.get? b = some o) → Q (some (.ref hA.objs.size)) { s with heap := h', toks := tk + 1 }) :
    wpAny (model prog w) A (pyNext (.ref e)) Q E s := by
  have hT : s.TypeIs (.ref e) "enumerate" := ⟨_, he, rfl⟩
  unfold pyNext
  exact wpAny_bind (wpAny_attempt (wpAny_callSpecial?_slot (name := Str.ofString "__next__") hT F.slot_enumerate_next
    (wpAny_call_entry F.slot_enumerate_next hT F.entry_enumerate_next
      (en_item he (inner _) fun x hA tk h' a b c d k => wpAny_pure (hQ x hA tk h' a b c d k)) (F.args_enumerate_next_1 _))))
theorem pyNext_en_end {e it : Addr} {c : Int} {old : Value} {Q : Option Value → Shared → Prop} {R : Heap → Nat → Prop} (he : IsEnum s.heap e it c old)
    (inner : ∀ (E' : Value → Shared → Prop) (Q' : Value → Shared → Prop), (∀ h' tk x, R h' tk → (∃ o, h'.get? x = some o ∧ o.cls = .type "StopIteration") → E' (.ref x) { s with heap := h', toks := tk }) → wpAny (model prog w) A.in1 (Builtin.SmallTypes.nextOf (.ref it)) Q' E' s)
    (hQ : ∀ h' tk, R h' tk → Q none { s with heap := h', toks := tk }) : wpAny (model prog w) A (pyNext (.ref e)) Q E s := by
  have hT : s.TypeIs (.ref e) "enumerate" := ⟨_, he, rfl⟩
  unfold pyNext
  refine wpAny_bind (wpAny_attempt (wpAny_callSpecial?_slot (name := Str.ofString "__next__") hT F.slot_enumerate_next
    (wpAny_call_entry F.slot_enumerate_next hT F.entry_enumerate_next ?_ (F.args_enumerate_next_1 _))))
  show wpAny _ _ (field (.ref e) 2 >>= _) _ _ _
  refine wpAny_bind (wpAny_field he rfl (x := .ref it) rfl ?_)
  refine wpAny_bind (inner _ _ fun h' tk x hR hx => ?_)
  obtain ⟨o, ho, hc⟩ := hx
  refine wpAny_bind (wpAny_isInstance (T := "StopIteration") (b := true) ⟨o, ho, hc⟩ isSubtype_stop ?_)
  exact wpAny_pure (hQ _ _ hR)
end
end EZ
end
section
set_option Elab.async false
set_option linter.all false
set_option maxRecDepth 100000
set_option maxHeartbeats 2000000
/-! GE3: for i, x in enumerate(a tuple), for i, (x, y) in enumerate(zip(a list, a tuple)). -/
namespace EZ
open PySem PySem.Spec PyProof.Rows L2
set_option maxHeartbeats 1000000 in
theorem meets_enumerate_newI (z : Addr) (o : Obj) (hc : o.cls = .type "zip") (I : ∀ (prog : Program) (w : World) (A : Around) (E : Value → Shared → Prop) (s : Shared) (Q : Value → Shared → Prop), s.heap.get? z = some o → Q (.ref z) s → wpAny (model prog w) A (pyIter (.ref z)) Q E s) :
    Meets (Builtin.«enumerate.__new__» ⟨[.type "enumerate", .ref z], []⟩) (fun _ R s => s.heap.get? z = some o ∧
      R (.ok (.ret (.ref s.heap.objs.size))) { s with heap := s.heap.push { cls := .type "enumerate", data := .fields #[.none, .bool false, .ref z, rawInt 0, .none, .none] } }) :=
  .of_wp fun prog w A R s h => by
    obtain ⟨hp, g, d, tk, os⟩ := s; obtain ⟨h1, h⟩ := h
    have hsub := sub_enumerate
    have q1 : ∀ {A' : Around} {E : Value → Shared → Prop} {Q : Value → Shared → Prop}, Q (.ref z) ⟨hp, g, d, tk, os⟩ → wpAny (model prog w) A' (pyIter (.ref z)) Q E ⟨hp, g, d, tk, os⟩ :=
      fun q => I prog w _ _ ⟨hp, g, d, tk, os⟩ _ h1 q
    wp_walk using wpAny_loadPart' h1, q1
    refine wpAny_stack_any fun st => wpAny_pure ?_
    split
    · rename_i c _ _ _ _ _
      cases (c == Value.type "enumerate")
      · wp_walk using wpAny_loadPart' h1, q1
        exact ⟨_, rfl, h⟩
      · wp_walk using wpAny_loadPart' h1, q1
        exact ⟨_, rfl, h⟩
    · wp_walk using wpAny_loadPart' h1, q1
      exact ⟨_, rfl, h⟩
set_option maxHeartbeats 1000000 in
theorem meets_enumerate_new1 {v : Value} {o : Obj} {H : Heap → Prop} (B : Begins v o H) :
    Meets (Builtin.«enumerate.__new__» ⟨[.type "enumerate", v], []⟩) (fun _ R s => H s.heap ∧
      R (.ok (.ret (.ref (s.heap.push o).objs.size))) { s with heap := (s.heap.push o).push { cls := .type "enumerate", data := .fields #[.none, .bool false, .ref s.heap.objs.size, rawInt 0, .none, .none] } }) :=
  .of_wp fun prog w A R s h => by
    obtain ⟨hp, g, d, tk, os⟩ := s; obtain ⟨h1, h⟩ := h
    have hsub := sub_enumerate
    have q1 : ∀ {A' : Around} {E : Value → Shared → Prop} {Q : Value → Shared → Prop}, Q (.ref hp.objs.size) ⟨hp.push o, g, d, tk, os⟩ → wpAny (model prog w) A' (pyIter v) Q E ⟨hp, g, d, tk, os⟩ :=
      fun q => B.iter prog w _ _ ⟨hp, g, d, tk, os⟩ _ h1 q
    wp_walk using q1
    refine wpAny_stack_any fun st => wpAny_pure ?_
    split
    · rename_i c _ _ _ _ _
      cases (c == Value.type "enumerate")
      · wp_walk using q1
        exact ⟨_, rfl, h⟩
      · wp_walk using q1
        exact ⟨_, rfl, h⟩
    · wp_walk using q1
      exact ⟨_, rfl, h⟩
section
variable {prog : Program} {w : World} {A : Around} {E : Value → Shared → Prop} {s : Shared}
theorem call_enum1 {v : Value} {o : Obj} {H : Heap → Prop} {Q : Value → Shared → Prop} (B : Begins v o H) (h1 : H s.heap)
    (h : ∀ h', IsEnum h' (s.heap.objs.size + 1) s.heap.objs.size 0 .none → h'.get? s.heap.objs.size = some o → h'.objs.size = s.heap.objs.size + 2 →
      (∀ b o, s.heap.get? b = some o → h'.get? b = some o) → Q (.ref (s.heap.objs.size + 1)) { s with heap := h' }) :
    wpAny (model prog w) A (call (.type "enumerate") [v]) Q E s := by
  refine callType_new F.called_enumerate (by decide) (F.typeCall_enumerate_1 _) (F.newCall_enumerate_1 _) (fun obj => F.args_object_init_2 obj _) F.entry_enumerate_new
    (meets_enumerate_new1 B) ⟨h1, ?_⟩
  have hz : (s.heap.push o).objs.size = s.heap.objs.size + 1 := Heap.size_push ..
  show _ ∧ _
  rw [hz]
  have he : IsEnum ((s.heap.push o).push { cls := .type "enumerate", data := .fields #[.none, .bool false, .ref s.heap.objs.size, rawInt 0, .none, .none] }) (s.heap.objs.size + 1) s.heap.objs.size 0 .none := by
    have := Heap.get?_push_size (s.heap.push o) (o := { cls := .type "enumerate", data := .fields #[.none, .bool false, .ref s.heap.objs.size, rawInt 0, .none, .none] }) rfl
    rw [hz] at this; exact this
  refine ⟨⟨_, he, rfl⟩, h _ he (Heap.get?_push_of_some _ (Heap.get?_push_size _ B.free)) (by rw [Heap.size_push, hz]) fun b o x => Heap.get?_push_of_some _ (Heap.get?_push_of_some _ x)⟩
theorem call_enumZ {z TI TO : Addr} {f0 : Value} {Q : Value → Shared → Prop} (hz : IsZip s.heap z TI TO f0)
    (h : ∀ h', IsEnum h' s.heap.objs.size z 0 .none → h'.objs.size = s.heap.objs.size + 1 → (∀ b o, s.heap.get? b = some o → h'.get? b = some o) → Q (.ref s.heap.objs.size) { s with heap := h' }) :
    wpAny (model prog w) A (call (.type "enumerate") [.ref z]) Q E s := by
  refine callType_new F.called_enumerate (by decide) (F.typeCall_enumerate_1 _) (F.newCall_enumerate_1 _) (fun obj => F.args_object_init_2 obj _) F.entry_enumerate_new
    (meets_enumerate_newI z _ rfl (fun prog w A E s Q hz q => wpAny_pyIter_zip (TI := TI) (TO := TO) (f0 := f0) hz q)) ⟨hz, ?_⟩
  have he : IsEnum (s.heap.push { cls := .type "enumerate", data := .fields #[.none, .bool false, .ref z, rawInt 0, .none, .none] }) s.heap.objs.size z 0 .none := Heap.get?_push_size _ rfl
  exact ⟨⟨_, he, rfl⟩, h _ he (Heap.size_push ..) fun b o x => Heap.get?_push_of_some _ x⟩
end
/-! ### enumerate(tuple) -/
def IteT (K : PySem.W.Frag) (a : Addr) : It :=
  ⟨fun i H => ∃ (xs : List V) (x : V), SqT K H a xs ∧ xs[i]? = some x, fun i H v H' => ∃ T x, v = .ref T ∧ H T = none ∧ H' = upd H T (.tup [.int (i : Nat), x]) ∧ ∀ xs, SqT K H a xs → xs[i]? = some x, fun i H => ∃ xs : List V, SqT K H a xs ∧ xs.length ≤ i⟩
theorem en_ne_tup {h : Heap} {e it a : Addr} {c : Int} {old : Value} {items : Array Value} (he : IsEnum h e it c old) (p : h.IsTuple a items) : e ≠ a := fun z => by
  obtain ⟨o, ho, hc, _⟩ := p
  rw [← z, he] at ho
  cases ho
  simp at hc
theorem ti_ne_tup {h : Heap} {it a t : Addr} {i : Nat} {items : Array Value} (hi : h.IsTupleIter it t i) (p : h.IsTuple a items) : a ≠ it := fun z => by
  obtain ⟨o, ho, hc, _⟩ := p
  obtain ⟨o', ho', hc', _⟩ := hi
  rw [z, ho'] at ho
  cases ho
  rw [hc'] at hc
  simp at hc
theorem turn_enumT {P : Program} {w : World} {K : PySem.W.Frag} {elts : List Expr} {kk : Nat} {tpos : Pos} (a e it : Addr) :
    Turn P w K (.Tuple elts kk tpos) (IteT K a) [e, it] e (fun i h => (∃ old, IsEnum h e it ((i : Nat) : Int) old) ∧ h.IsTupleIter it a i ∧ e ≠ it) where
  mem := by simp
  obj := fun i h st b hb => by
    obtain ⟨⟨old, he⟩, ⟨o, ho, hc, hd⟩, _⟩ := st
    have e' : b = e ∨ b = it := by simpa using hb
    rcases e' with z | z
    · rw [z]; exact ⟨_, he, fun v q => nomatch q⟩
    · rw [z]; exact ⟨o, ho, fun v q => by rw [hd] at q; cases q⟩
  keep := fun i h h' st k => let ⟨⟨old, he⟩, hi, hne⟩ := st; ⟨⟨old, k e (by simp) _ he⟩, hi.at fun o q => k it (by simp) o q, hne⟩
  item := by
    intro X hP hw hK hc i pins s σ H E I hf st hg
    subst hP hw hK
    obtain ⟨⟨old, he⟩, hit, hne⟩ := st
    obtain ⟨xs, x, hq, hx⟩ := hg
    obtain ⟨its, rv, p, hz⟩ := I.tuple hq
    obtain ⟨u, hu, ru⟩ := rv.get hx
    have hel : e < s.heap.objs.size := Heap.lt_size he
    have hil : it < s.heap.objs.size := by obtain ⟨_, q, _⟩ := hit; exact Heap.lt_size q
    have hea := en_ne_tup he p
    have hta := ti_ne_tup hit p
    have hh : X.A.in1.handled = none := I.ok.hd hc
    refine wpAny_pyNext_enum_itemD (Draws.tuple hh it a hta its.toArray) he ⟨hit, p⟩ (by have := (List.getElem?_eq_some_iff.mp hu).1; simpa using this) hne (by simp [hne, hea]) fun x' h' tk hx' ho hst hT hsz hk => ?_
    have ex : x' = u := by
      have hx' : its.toArray[i]? = some x' := hx'
      have hu' : its.toArray[i]? = some u := by simpa using hu
      rw [hu'] at hx'
      exact (Option.some.inj hx').symm
    subst ex
    refine ⟨_, rfl, wpAny_letOwnedTupleGo_enum (s := { s with heap := h', toks := tk + 1 }) ho fun h'' he' sb => ?_⟩
    have hT2 : h''.get? s.heap.objs.size = some { cls := .type "tuple", data := .seq #[.int i tk, x'] } := (sb.2 _ (Nat.ne_of_gt hel)).trans hT
    have new : ObjOk X.prog X.w (upd H s.heap.objs.size (.tup [.int (i : Nat), x])) h'' s.heap.objs.size (.tup [.int (i : Nat), x]) :=
      ⟨by show 2 ≤ sizeLine; decide, [.int i tk, x'], .cons ⟨_, rfl⟩ (.cons ru .nil), ⟨_, hT2, rfl, _, rfl⟩⟩
    have I1 : Inv X pins σ (upd H s.heap.objs.size (.tup [.int (i : Nat), x])) { s with heap := h'', toks := tk + 1 } :=
      I.turnedNew (ch := [e, it]) (fun b ob hb q => (sb.2 b (fun z => hb (by simp [z]))).trans (hk b ob (fun z => hb (by simp [z])) (fun z => hb (by simp [z])) q)) hf (Nat.le_refl _) new
    refine ⟨.ref s.heap.objs.size, _, I1, rfl, ⟨_, x, rfl, I.hok.fresh (Nat.le_refl _), rfl, fun ys hy => by rw [I.tuple_inj hy hq]; exact hx⟩, ⟨⟨x', ?_⟩, hst.1.at fun o q => (sb.2 it (Ne.symm hne)).trans q, hne⟩, fun b hb => ?_⟩
    · have e1 : ((i + 1 : Nat) : Int) = (i : Int) + 1 := by omega
      rw [e1]; exact he'
    · have hb' : b < s.heap.objs.size := by
        have e' : b = e ∨ b = it := by simpa using hb
        rcases e' with z | z
        · rw [z]; exact hel
        · rw [z]; exact hil
      rw [upd_ne (Nat.ne_of_lt hb')]
      exact (hf b hb).1
  done := by
    intro X hP hw hK hc i pins s σ H E I hf st hg
    subst hP hw hK
    obtain ⟨⟨old, he⟩, hit, hne⟩ := st
    obtain ⟨xs, hq, hx⟩ := hg
    obtain ⟨its, rv, p, hz⟩ := I.tuple hq
    obtain ⟨f0, f1, f2, f3, f4, f5⟩ := hf it (by simp)
    have hl := rv.length
    have hta := ti_ne_tup hit p
    refine pyNext_en_end (R := fun h' tk => Heap.ExtBut it s.heap h' ∧ tk = s.toks) he (fun E' Q' q => ?_) fun h' tk ⟨eb, et⟩ => ?_
    · exact wpAny_nextOf_tuple_end (I.ok.hd hc) hit p (by simp; omega) fun h' e eb ho => q h' s.toks e ⟨eb, rfl⟩ ho
    · subst et
      exact ⟨rfl, I.turned (t' := s.toks) (fun b o hb q => eb b o hb q) f0 f1 f3 f4 f5⟩
  self := fun A i s Q E st h => let ⟨⟨_, he⟩, _⟩ := st; wpAny_pyIter_enum he h
end EZ
end
section
set_option Elab.async false
set_option linter.all false
set_option maxRecDepth 100000
set_option maxHeartbeats 4000000
/-! GE4: for i, (x, y) in enumerate(zip(a list, a tuple)). -/
namespace EZ
open PySem PySem.Spec PyProof.Rows L2
def IteZ (K : PySem.W.Frag) (a b : Addr) : It :=
  ⟨fun i H => ∃ (xs ys : List V) (x y : V), SqL K H a xs ∧ SqT K H b ys ∧ xs[i]? = some x ∧ ys[i]? = some y,
    fun i H v H' => ∃ T1 T2 x y, v = .ref T2 ∧ H T1 = none ∧ H T2 = none ∧ T1 ≠ T2 ∧ H' = upd (upd H T1 (.tup [x, y])) T2 (.tup [.int (i : Nat), .ref T1]) ∧ (∀ xs, SqL K H a xs → xs[i]? = some x) ∧ ∀ ys, SqT K H b ys → ys[i]? = some y,
    fun i H => ∃ xs ys : List V, SqL K H a xs ∧ SqT K H b ys ∧ (xs.length ≤ i ∨ ys.length ≤ i)⟩
structure EApart (e z TI TO i1 i2 a b : Addr) : Prop where
  S : ZipSep2 z TI TO i1 i2 [i1, a] [i2, b]
  ez : e ≠ z
  eI : e ≠ TI
  eO : e ≠ TO
  e1 : e ≠ i1
  e2 : e ≠ i2
  nea : e ≠ a
  neb : e ≠ b
def tnZ (e z TI TO i1 i2 a b : Addr) (i : Nat) (h : Heap) : Prop :=
  (∃ old, IsEnum h e z ((i : Nat) : Int) old) ∧ (∃ v f b1 b2, HeldV v ∧ IsZA h z TI TO v f ∧ IsTupOf2 h TO b1 b2) ∧ IsTupOf2 h TI (.ref i1) (.ref i2) ∧ h.IsListIter i1 a i ∧ h.IsTupleIter i2 b i
theorem turn_ez {P : Program} {w : World} {K : PySem.W.Frag} {elts : List Expr} {kk : Nat} {tpos : Pos} {a b e z TI TO i1 i2 : Addr} (D : EApart e z TI TO i1 i2 a b) :
    Turn P w K (.Tuple elts kk tpos) (IteZ K a b) [e, z, TI, TO, i1, i2] e (tnZ e z TI TO i1 i2 a b) where
  mem := by simp
  obj := fun i h st c hc => by
    obtain ⟨⟨old, he⟩, ⟨v, f, b1, b2, hv, hz, hTO⟩, hTI, ⟨o1, e1, _, d1⟩, ⟨o2, e2, _, d2⟩⟩ := st
    have e' : c = e ∨ c = z ∨ c = TI ∨ c = TO ∨ c = i1 ∨ c = i2 := by simpa using hc
    rcases e' with q | q | q | q | q | q
    · rw [q]; exact ⟨_, he, fun v q => nomatch q⟩
    · rw [q]; exact ⟨_, hz, fun v q => nomatch q⟩
    · rw [q]; exact ⟨_, hTI, fun v q => nomatch q⟩
    · rw [q]; exact ⟨_, hTO, fun v q => nomatch q⟩
    · rw [q]; exact ⟨o1, e1, fun v q => by rw [d1] at q; cases q⟩
    · rw [q]; exact ⟨o2, e2, fun v q => by rw [d2] at q; cases q⟩
  keep := fun i h h' st k => by
    obtain ⟨⟨old, he⟩, ⟨v, f, b1, b2, hv, hz, hTO⟩, hTI, h1, h2⟩ := st
    exact ⟨⟨old, k e (by simp) _ he⟩, ⟨v, f, b1, b2, hv, k z (by simp) _ hz, k TO (by simp) _ hTO⟩, k TI (by simp) _ hTI, h1.at fun o q => k i1 (by simp) o q, h2.at fun o q => k i2 (by simp) o q⟩
  item := by
    intro X hP hw hK hc i pins s σ H E I hf st hg
    subst hP hw hK
    obtain ⟨⟨old, he⟩, ⟨v, f, b1, b2, hv, hz, hTO⟩, hTI, h1, h2⟩ := st
    obtain ⟨xs, ys, x, y, hqx, hqy, hx, hy⟩ := hg
    obtain ⟨its, rv, p, _⟩ := I.list hqx
    obtain ⟨its2, rv2, p2, _⟩ := I.tuple hqy
    obtain ⟨u, hu, ru⟩ := rv.get hx
    obtain ⟨u2, hu2, ru2⟩ := rv2.get hy
    have hel : e < s.heap.objs.size := Heap.lt_size he
    have hh : X.A.in1.in1.handled = none := I.ok.hd hc
    have hai : a ≠ i1 := fun q => by
      obtain ⟨o, ho, hc', _⟩ := p.isList
      obtain ⟨o', ho', hc'', _⟩ := h1
      rw [q, ho'] at ho; cases ho; rw [hc''] at hc'; simp at hc'
    have hbi := ti_ne_tup h2 p2
    have l1 : i < its.toArray.size := by have := (List.getElem?_eq_some_iff.mp hu).1; simpa using this
    have l2 : i < its2.toArray.size := by have := (List.getElem?_eq_some_iff.mp hu2).1; simpa using this
    refine pyNext_en_item (R := fun w hA tk => w = .ref s.heap.objs.size ∧ (∃ v f b1 b2, HeldV v ∧ IsZA hA z TI TO v f ∧ IsTupOf2 hA TO b1 b2) ∧ hA.IsListIter i1 a (i + 1) ∧ hA.IsTupleIter i2 b (i + 1) ∧ IsTupOf2 hA s.heap.objs.size u u2 ∧ hA.objs.size = s.heap.objs.size + 1 ∧
        ∀ c o, c ≠ z → c ≠ TO → c ≠ i1 → c ≠ i2 → s.heap.get? c = some o → hA.get? c = some o) he (fun E Q' q => ?_) fun w hA tk h' R ho hT hsz hk => ?_
    · refine nextOf_zip hz (zn_item D.S (Draws.list hh i1 a hai its.toArray) (Draws.tuple hh i2 b hbi its2.toArray) hv hz hTI hTO ⟨h1, p.isList⟩ ⟨h2, p2⟩ l1 l2 fun x1 x2 h' tk v' f' c1 c2 g1 g2 hv' hz' hO' t1 t2 hN hs hk => ?_)
      have e1 : x1 = u := by
        have g1 : its.toArray[i]? = some x1 := g1
        have hu' : its.toArray[i]? = some u := by simpa using hu
        rw [hu'] at g1
        exact (Option.some.inj g1).symm
      have e2 : x2 = u2 := by
        have g2 : its2.toArray[i]? = some x2 := g2
        have hu' : its2.toArray[i]? = some u2 := by simpa using hu2
        rw [hu'] at g2
        exact (Option.some.inj g2).symm
      subst e1 e2
      exact q _ h' tk ⟨rfl, ⟨v', f', c1, c2, hv', hz', hO'⟩, t1.1, t2.1, hN, hs, hk⟩ (hk e _ D.ez D.eO D.e1 D.e2 he)
    · obtain ⟨rfl, ⟨v', f', c1, c2, hv', hz', hO'⟩, t1, t2, hN, hs, hkA⟩ := R
      refine ⟨_, rfl, wpAny_letOwnedTupleGo_enum (s := { s with heap := h', toks := tk + 1 }) ho fun h'' he' sb => ?_⟩
      have eN : e ≠ s.heap.objs.size := Nat.ne_of_lt hel
      have lift : ∀ c o, c ≠ e → hA.get? c = some o → h''.get? c = some o := fun c o hc q => (sb.2 c hc).trans (hk c o hc q)
      have new1 : ObjOk X.prog X.w (upd H s.heap.objs.size (.tup [x, y])) hA s.heap.objs.size (.tup [x, y]) :=
        ⟨by show 2 ≤ sizeLine; decide, [u, u2], .cons ru (.cons ru2 .nil), ⟨_, hN, rfl, _, rfl⟩⟩
      have I1 : Inv X pins σ (upd H s.heap.objs.size (.tup [x, y])) { s with heap := hA, toks := tk } :=
        I.turnedNew (ch := [z, TI, TO, i1, i2]) (fun c o hb q => hkA c o (fun q' => hb (by simp [q'])) (fun q' => hb (by simp [q'])) (fun q' => hb (by simp [q'])) (fun q' => hb (by simp [q'])) q) (fun c hc => hf c (List.mem_cons_of_mem _ hc)) (Nat.le_refl _) new1
      have fe : ∀ c ∈ [e], FpOk X pins (upd H s.heap.objs.size (.tup [x, y])) c := fun c hc => by
        have : c = e := by simpa using hc
        subst this
        obtain ⟨f0, f1⟩ := hf c (by simp)
        exact ⟨by rw [upd_ne eN]; exact f0, f1⟩
      have hT2 : h''.get? hA.objs.size = some { cls := .type "tuple", data := .seq #[.int i tk, .ref s.heap.objs.size] } := (sb.2 _ (Nat.ne_of_gt (by rw [hs]; exact Nat.lt_succ_of_lt hel))).trans hT
      have new2 : ObjOk X.prog X.w (upd (upd H s.heap.objs.size (.tup [x, y])) hA.objs.size (.tup [.int (i : Nat), .ref s.heap.objs.size])) h'' hA.objs.size (.tup [.int (i : Nat), .ref s.heap.objs.size]) :=
        ⟨by show 2 ≤ sizeLine; decide, [.int i tk, .ref s.heap.objs.size], .cons ⟨_, rfl⟩ (.cons rfl .nil), ⟨_, hT2, rfl, _, rfl⟩⟩
      have I2 : Inv X pins σ (upd (upd H s.heap.objs.size (.tup [x, y])) hA.objs.size (.tup [.int (i : Nat), .ref s.heap.objs.size])) { s with heap := h'', toks := tk + 1 } :=
        I1.turnedNew (t' := tk + 1) (ch := [e]) (fun c o hb q => lift c o (fun q' => hb (by simp [q'])) q) fe (Nat.le_refl _) new2
      refine ⟨.ref hA.objs.size, _, I2, rfl, ⟨s.heap.objs.size, hA.objs.size, x, y, rfl, I.hok.fresh (Nat.le_refl _), I.hok.fresh (by rw [hs]; exact Nat.le_succ _), by rw [hs]; exact Nat.ne_of_lt (Nat.lt_succ_self _), rfl, fun l hl => by rw [I.list_inj hl hqx]; exact hx, fun l hl => by rw [I.tuple_inj hl hqy]; exact hy⟩, ⟨⟨.ref s.heap.objs.size, ?_⟩, ⟨v', f', c1, c2, hv', lift _ _ D.ez.symm hz', lift _ _ D.eO.symm hO'⟩, lift _ _ D.eI.symm (hkA _ _ D.S.TIz D.S.TITO D.S.TIi1 D.S.TIi2 hTI), ?_, ?_⟩, fun c hcm => ?_⟩
      · have e1 : ((i + 1 : Nat) : Int) = (i : Int) + 1 := by omega
        rw [e1]; exact he'
      · exact t1.at fun o q => lift _ _ D.e1.symm q
      · exact t2.at fun o q => lift _ _ D.e2.symm q
      · have hlt : c < s.heap.objs.size := by
          have e' : c = e ∨ c = z ∨ c = TI ∨ c = TO ∨ c = i1 ∨ c = i2 := by simpa using hcm
          rcases e' with q | q | q | q | q | q
          · rw [q]; exact hel
          · rw [q]; exact Heap.lt_size hz
          · rw [q]; exact Heap.lt_size hTI
          · rw [q]; exact Heap.lt_size hTO
          · rw [q]; obtain ⟨_, e1, _⟩ := h1; exact Heap.lt_size e1
          · rw [q]; obtain ⟨_, e2, _⟩ := h2; exact Heap.lt_size e2
        rw [upd_ne (Nat.ne_of_lt (by rw [hs]; exact Nat.lt_succ_of_lt hlt)), upd_ne (Nat.ne_of_lt hlt)]
        exact (hf c hcm).1
  done := by
    intro X hP hw hK hc i pins s σ H E I hf st hg
    subst hP hw hK
    obtain ⟨⟨old, he⟩, ⟨v, f, b1, b2, hv, hz, hTO⟩, hTI, h1, h2⟩ := st
    obtain ⟨xs, ys, hqx, hqy, hend⟩ := hg
    obtain ⟨its, rv, p, _⟩ := I.list hqx
    obtain ⟨its2, rv2, p2, _⟩ := I.tuple hqy
    have hh : X.A.in1.in1.handled = none := I.ok.hd hc
    have hai : a ≠ i1 := fun q => by
      obtain ⟨o, ho, hc', _⟩ := p.isList
      obtain ⟨o', ho', hc'', _⟩ := h1
      rw [q, ho'] at ho; cases ho; rw [hc''] at hc'; simp at hc'
    have hbi := ti_ne_tup h2 p2
    have l1 := rv.length
    have l2 := rv2.length
    refine pyNext_en_end (R := fun h' tk => ∀ c o, c ≠ z → c ≠ TO → c ≠ i1 → c ≠ i2 → s.heap.get? c = some o → h'.get? c = some o) he (fun E' Q' q => ?_) fun h' tk hk => ⟨rfl, ?_⟩
    · refine nextOf_zip hz (zn_end D.S (Draws.list hh i1 a hai its.toArray) (Draws.tuple hh i2 b hbi its2.toArray) hv hz hTI hTO ⟨h1, p.isList⟩ ⟨h2, p2⟩ ?_ (fun hl s Q E st hE => ?_) (fun hl s Q E st hE => ?_) fun h' tk x hk ho => q h' tk x hk ho)
      · rcases hend with q | q
        · exact .inl (by simp; omega)
        · exact .inr (by simp; omega)
      · exact wpAny_nextOf_list_end hh st.1 st.2 (by simpa using hl) hE
      · exact wpAny_nextOf_tuple_end hh st.1 st.2 (by simpa using hl) hE
    · exact I.turnedL (t' := tk) (ch := [z, TI, TO, i1, i2]) (fun c o hb q => hk c o (fun q' => hb (by simp [q'])) (fun q' => hb (by simp [q'])) (fun q' => hb (by simp [q'])) (fun q' => hb (by simp [q'])) q) (fun c hc => hf c (List.mem_cons_of_mem _ hc))
  self := fun A i s Q E st h => let ⟨⟨_, he⟩, _⟩ := st; wpAny_pyIter_enum he h
end EZ
end
section
set_option Elab.async false
set_option linter.all false
set_option maxRecDepth 100000
set_option maxHeartbeats 2000000
/-! GE5: enumerate(x), enumerate(zip(x, y)) as what is walked. -/
namespace FF
open PySem PySem.Spec PyProof.Rows L2 PySem.W EZ
theorem enumD_len : ∀ {xs : List D} {n : Nat}, (enumD n xs).length = xs.length
  | [], _ => rfl
  | x :: xs, n => by rw [enumD, List.length_cons, List.length_cons, enumD_len]
theorem enumD_get : ∀ {xs : List D} {n i : Nat} {z : D}, (enumD n xs)[i]? = some z → ∃ x, xs[i]? = some x ∧ z = .tuple [.int ((n + i : Nat) : Int), x]
  | [], n, i, z, h => by simp [enumD] at h
  | x :: xs, n, 0, z, h => by simp [enumD] at h; exact ⟨x, rfl, by rw [← h]; simp⟩
  | x :: xs, n, i + 1, z, h => by
    rw [enumD, List.getElem?_cons_succ] at h
    obtain ⟨y, h1, h2⟩ := enumD_get h
    exact ⟨y, by simpa using h1, by rw [h2, show n + 1 + i = n + (i + 1) by omega]⟩
section
variable {K : PySem.W.Frag} {wd : World} {fa : Nat → Addr}
theorem wlk_enumL {a : Addr} {xs : List D} : Wlk K wd fa (Ite K a) (enumD 0 xs) (fun σ ρ H => ∃ vs, RDs K wd H vs xs ∧ StdL K σ ρ H a vs) := by
  refine ⟨fun σ ρ H σ' ρ' H' s ⟨vs, r, h⟩ => ⟨vs, RDs.mono s.mo _ _ r, h.step s⟩, fun i σ ρ H ⟨vs, r, h⟩ hi => ?_, fun i σ ρ H ⟨vs, r, h⟩ hi => ?_, fun i σ ρ H v H' x ⟨vs, r, h⟩ sr hx y => ?_⟩
  · rw [enumD_len] at hi
    have h3 : i < vs.length := by rw [r.length]; omega
    exact ⟨vs, vs[i], h.sq, List.getElem?_eq_getElem h3⟩
  · rw [enumD_len] at hi
    exact ⟨vs, h.sq, by rw [r.length]; exact hi⟩
  · obtain ⟨T, x1, rfl, nT, rfl, f1⟩ := y
    obtain ⟨d1, e1, rfl⟩ := enumD_get hx
    obtain ⟨v1, g1, k1⟩ := r.get e1
    have q1 := f1 vs h.sq
    rw [g1] at q1; cases q1
    rw [Nat.zero_add]
    exact ⟨Stp.new sr nT, .tup (.inl (.inl upd_same)) (.cons (.int _) (.cons (RD.mono (Mo.new nT) _ _ k1) .nil))⟩
theorem wlk_enumT {a : Addr} {xs : List D} : Wlk K wd fa (IteT K a) (enumD 0 xs) (fun _ _ H => ∃ vs, RDs K wd H vs xs ∧ SqT K H a vs) := by
  refine ⟨fun σ ρ H σ' ρ' H' s ⟨vs, r, h⟩ => ⟨vs, RDs.mono s.mo _ _ r, s.mo.sqT h⟩, fun i σ ρ H ⟨vs, r, h⟩ hi => ?_, fun i σ ρ H ⟨vs, r, h⟩ hi => ?_, fun i σ ρ H v H' x ⟨vs, r, h⟩ sr hx y => ?_⟩
  · rw [enumD_len] at hi
    have h3 : i < vs.length := by rw [r.length]; omega
    exact ⟨vs, vs[i], h, List.getElem?_eq_getElem h3⟩
  · rw [enumD_len] at hi
    exact ⟨vs, h, by rw [r.length]; exact hi⟩
  · obtain ⟨T, x1, rfl, nT, rfl, f1⟩ := y
    obtain ⟨d1, e1, rfl⟩ := enumD_get hx
    obtain ⟨v1, g1, k1⟩ := r.get e1
    have q1 := f1 vs h
    rw [g1] at q1; cases q1
    rw [Nat.zero_add]
    exact ⟨Stp.new sr nT, .tup (.inl (.inl upd_same)) (.cons (.int _) (.cons (RD.mono (Mo.new nT) _ _ k1) .nil))⟩
theorem wlk_enumZ {a b : Addr} {xs ys : List D} : Wlk K wd fa (IteZ K a b) (enumD 0 (List.zipWith (fun x y => .tuple [x, y]) xs ys)) (fun σ ρ H => (∃ vs, RDs K wd H vs xs ∧ StdL K σ ρ H a vs) ∧ ∃ us, RDs K wd H us ys ∧ SqT K H b us) := by
  refine ⟨fun σ ρ H σ' ρ' H' s ⟨⟨vs, r, h⟩, us, r2, h2⟩ => ⟨⟨vs, RDs.mono s.mo _ _ r, h.step s⟩, us, RDs.mono s.mo _ _ r2, s.mo.sqT h2⟩, fun i σ ρ H ⟨⟨vs, r, h⟩, us, r2, h2⟩ hi => ?_, fun i σ ρ H ⟨⟨vs, r, h⟩, us, r2, h2⟩ hi => ?_, fun i σ ρ H v H' x ⟨⟨vs, r, h⟩, us, r2, h2⟩ sr hx y => ?_⟩
  · rw [enumD_len, zip_len] at hi
    have h3 : i < vs.length := by rw [r.length]; omega
    have h4 : i < us.length := by rw [r2.length]; omega
    exact ⟨vs, us, vs[i], us[i], h.sq, h2, List.getElem?_eq_getElem h3, List.getElem?_eq_getElem h4⟩
  · rw [enumD_len, zip_len] at hi
    refine ⟨vs, us, h.sq, h2, ?_⟩
    rw [r.length, r2.length]
    omega
  · obtain ⟨T1, T2, x1, x2, rfl, n1, n2, nT, rfl, f1, f2⟩ := y
    obtain ⟨d0, e0, rfl⟩ := enumD_get hx
    obtain ⟨d1, d2, e1, e2, rfl⟩ := zip_get e0
    obtain ⟨v1, g1, k1⟩ := r.get e1
    obtain ⟨v2, g2, k2⟩ := r2.get e2
    have q1 := f1 vs h.sq
    have q2 := f2 us h2
    rw [g1] at q1; cases q1
    rw [g2] at q2; cases q2
    rw [Nat.zero_add]
    have s1 := Stp.new (o := .tup [x1, x2]) sr n1
    have n2' : upd H T1 (.tup [x1, x2]) T2 = none := by rw [upd_ne nT.symm]; exact n2
    have s2 := Stp.new (o := .tup [.int (i : Nat), .ref T1]) s1.sr n2'
    refine ⟨s1.trans s2, .tup (.inl (.inl upd_same)) (.cons (.int _) (.cons (.tup (.inl (.inl ?_)) (.cons (RD.mono (s1.trans s2).mo _ _ k1) (.cons (RD.mono (s1.trans s2).mo _ _ k2) .nil))) .nil))⟩
    rw [upd_ne nT]
    exact upd_same
end

/-! ### what comes -/
def iEnumA (K : PySem.W.Frag) (ta : TA) : TI := fun σ H R => ta σ H fun vs H1 => ∃ a xs, vs = [.ref a] ∧ (SqL K H1 a xs ∧ R (Ite K a) H1 ∨ SqT K H1 a xs ∧ R (IteT K a) H1)
theorem pi_enumA {X : Cx} {e : Expr} {ta : TA} {p pos tpos : Pos} {elts : List Expr} {kk : Nat} (hg : Gl X "enumerate") (hm : X.mg "enumerate" = none) (ha : PA X [e] ta) (hs : starEach [e] X.env = [(false, eval e X.env)]) :
    PI X (.Tuple elts kk tpos) (.Call (.Name "enumerate" p) [e] [] pos) (iEnumA X.K ta) := by
  refine ⟨fun pins s σ H R I h => ?_⟩
  refine Call_ (ld_blt I hg hm boot_enumerate (PyProof.Rows.callWith_type1 (thn (ha.run pos pins s σ H _ I h) fun us s1 ⟨vs, H1, I1, r1, q1⟩ => ?_) hs rfl))
  obtain ⟨a, xs, ex, q1⟩ := q1
  subst ex
  cases r1 with
  | cons r rr =>
    cases rr
    cases r
    have fresh2 : ∀ b, b ∈ [s1.heap.objs.size + 1, s1.heap.objs.size] → FpOk X pins H1 b := fun b hb => by
      have e' : b = s1.heap.objs.size + 1 ∨ b = s1.heap.objs.size := by simpa using hb
      have hle : s1.heap.objs.size ≤ b := by
        rcases e' with z | z
        · rw [z]; exact Nat.le_add_right _ _
        · rw [z]; exact Nat.le_refl _
      exact I1.fpOk hle (I1.hok.fresh hle)
    rcases q1 with ⟨hq, q⟩ | ⟨hq, q⟩
    · obtain ⟨its, rv, p', hz⟩ := I1.list hq
      refine call_enumerate_list p'.isList fun h' he hit hsz hk => wpAny_pyIter_enum he ?_
      have I2 : Inv X pins σ H1 { s1 with heap := h' } := I1.kept (t' := s1.toks) hk
      exact ⟨s1.heap.objs.size + 1, [s1.heap.objs.size + 1, s1.heap.objs.size], _, _, H1, rfl, I2, turn_enum a (s1.heap.objs.size + 1) s1.heap.objs.size, ⟨⟨.none, he⟩, hit, Nat.succ_ne_self _⟩, fresh2, q⟩
    · obtain ⟨its, rv, p', hz⟩ := I1.tuple hq
      refine call_enum1 (begins_tuple a its.toArray) p' fun h' he hit hsz hk => wpAny_pyIter_enum he ?_
      have I2 : Inv X pins σ H1 { s1 with heap := h' } := I1.kept (t' := s1.toks) hk
      exact ⟨s1.heap.objs.size + 1, [s1.heap.objs.size + 1, s1.heap.objs.size], _, _, H1, rfl, I2, turn_enumT a (s1.heap.objs.size + 1) s1.heap.objs.size, ⟨⟨.none, he⟩, ⟨_, hit, rfl, rfl⟩, Nat.succ_ne_self _⟩, fresh2, q⟩
def iEnumZ (K : PySem.W.Frag) (ta : TA) : TI := fun σ H R => ta σ H fun vs H1 => ∃ a b xs ys, vs = [.ref a, .ref b] ∧ SqL K H1 a xs ∧ SqT K H1 b ys ∧ R (IteZ K a b) H1
theorem e_apart {N a b : Nat} (ha : a < N) (hb : b < N) : EApart (N + 5) (N + 4) (N + 2) (N + 3) N (N + 1) a b :=
  ⟨zip_sep2 (fp1 := [a]) (fp2 := [b]) (fun c hc => by simp at hc; rw [hc]; exact ha) (fun c hc => by simp at hc; rw [hc]; exact hb), show (N + 5 : Nat) ≠ N + 4 by omega, show (N + 5 : Nat) ≠ N + 2 by omega, show (N + 5 : Nat) ≠ N + 3 by omega, show (N + 5 : Nat) ≠ N by omega, show (N + 5 : Nat) ≠ N + 1 by omega, show (N + 5 : Nat) ≠ a by omega, show (N + 5 : Nat) ≠ b by omega⟩
theorem pi_enumZ {X : Cx} {e e2 : Expr} {ta : TA} {p p2 pos pos2 tpos : Pos} {elts : List Expr} {kk : Nat} (hg : Gl X "enumerate") (hm : X.mg "enumerate" = none) (hg2 : Gl X "zip") (hm2 : X.mg "zip" = none) (ha : PA X [e, e2] ta)
    (hs : starEach [e, e2] X.env = (false, eval e X.env) :: starEach [e2] X.env) (hpl : (backTo pos2 (starEach [e2] X.env)).any (·.1) = false) :
    PI X (.Tuple elts kk tpos) (.Call (.Name "enumerate" p) [.Call (.Name "zip" p2) [e, e2] [] pos2] [] pos) (iEnumZ X.K ta) := by
  refine ⟨fun pins s σ H R I h => ?_⟩
  refine Call_ (ld_blt I hg hm boot_enumerate (PyProof.Rows.callWith_type1 ?_ rfl rfl))
  show wpAny _ _ (spliced ((false, eval (.Call (.Name "zip" p2) [e, e2] [] pos2) X.env) :: backTo pos (starEach [] X.env))) _ _ s
  refine Calls.spliced_cons ?_
  refine Call_ (ld_blt I hg2 hm2 PyProof.Rows.boot_zip (PyProof.Rows.callWith_type1 (thn (ha.run pos2 pins s σ H _ I h) fun us s1 ⟨vs, H1, I1, r1, q1⟩ => ?_) hs hpl))
  obtain ⟨a, b, xs, ys, ex, hqx, hqy, q⟩ := q1
  subst ex
  cases r1 with
  | cons r rr =>
    cases rr with
    | cons r' rr =>
      cases rr
      cases r
      cases r'
      obtain ⟨its, rv, p1, _⟩ := I1.list hqx
      obtain ⟨its2, rv2, p2, _⟩ := I1.tuple hqy
      have la : a < s1.heap.objs.size := p1.lt
      have lb : b < s1.heap.objs.size := by obtain ⟨o2, ho2, _⟩ := id p2; exact Heap.lt_size ho2
      refine zip_begins2 (begins_list a its.toArray) (begins_tuple b its2.toArray) p1.isList p2 fun h' hz hTI hTO h1 h2 hsz hk => ?_
      refine Calls.spliced_nil ?_
      refine call_enumZ (s := { s1 with heap := h' }) hz fun h'' he hsz2 hk2 => ?_
      have he : IsEnum h'' (s1.heap.objs.size + 5) (s1.heap.objs.size + 4) 0 .none := by have := he; rw [show h'.objs.size = s1.heap.objs.size + 5 from hsz] at this; exact this
      show wpAny _ _ (pyIter (.ref h'.objs.size)) _ _ _
      rw [show h'.objs.size = s1.heap.objs.size + 5 from hsz]
      refine wpAny_pyIter_enum he ?_
      have I2 : Inv X pins σ H1 { s1 with heap := h'' } := I1.kept (t' := s1.toks) fun c o q => hk2 c o (hk c o q)
      refine ⟨s1.heap.objs.size + 5, [s1.heap.objs.size + 5, s1.heap.objs.size + 4, s1.heap.objs.size + 2, s1.heap.objs.size + 3, s1.heap.objs.size, s1.heap.objs.size + 1], _, _, H1, rfl, I2, turn_ez (e_apart la lb), ⟨⟨.none, he⟩, ⟨.none, false, .none, .none, .inl rfl, hk2 _ _ hz, hk2 _ _ hTO⟩, hk2 _ _ hTI, ⟨_, hk2 _ _ h1, rfl, rfl⟩, ⟨_, hk2 _ _ h2, rfl, rfl⟩⟩, fun c hcm => ?_, q⟩
      have e' : c = s1.heap.objs.size + 5 ∨ c = s1.heap.objs.size + 4 ∨ c = s1.heap.objs.size + 2 ∨ c = s1.heap.objs.size + 3 ∨ c = s1.heap.objs.size ∨ c = s1.heap.objs.size + 1 := by simpa using hcm
      have hle : s1.heap.objs.size ≤ c := by
        rcases e' with z | z | z | z | z | z
        · rw [z]; exact Nat.le_add_right _ _
        · rw [z]; exact Nat.le_add_right _ _
        · rw [z]; exact Nat.le_add_right _ _
        · rw [z]; exact Nat.le_add_right _ _
        · rw [z]; exact Nat.le_refl _
        · rw [z]; exact Nat.le_add_right _ _
      exact I1.fpOk hle (I1.hok.fresh hle)
section
variable {X : Cx} {fa : Nat → Addr} {Ex : Nat → Hp → Prop}
theorem pi_en {elts : List Expr} {kn : Nat} {tpos : Pos} {a : Expr} {p pos : Pos} {f : Sl → O D} (hg : Gl X "enumerate") (hm : X.mg "enumerate" = none) (ha : PE X a (rdD X.K X.w fa Ex f)) (hs : starEach [a] X.env = (false, eval a X.env) :: starEach [] X.env) :
    PI X (.Tuple elts kn tpos) (.Call (.Name "enumerate" p) [a] [] pos) (rdI X.K X.w fa Ex fun ρ => (f ρ).bind fun x ρ => match x with
    | .list xs => .ok (enumD 0 xs) ρ
    | .tuple xs => .ok (enumD 0 xs) ρ
    | _ => .bad) := by
  refine PI.weak (pi_enumA hg hm (pa_cons ha pa_nil hs) hs) fun σ H R ⟨ρ, sr, q⟩ => ⟨ρ, sr, Rdg.imp (Rdg.bind q) fun x ρ1 H1 s1 q1 v rv => ?_⟩
  cases x with
  | list xs =>
    cases rv with
    | lst h1 r1 => exact ⟨_, _, rfl, .inl ⟨h1.rd.sq, q1 H1 (Stp.refl _ _ _ s1.sr) _ _ wlk_enumL ⟨_, r1, .inl h1⟩⟩⟩
  | tuple xs =>
    cases rv with
    | tup h1 r1 => exact ⟨_, _, rfl, .inr ⟨h1, q1 H1 (Stp.refl _ _ _ s1.sr) _ _ wlk_enumT ⟨_, r1, h1⟩⟩⟩
  | _ => exact q1.elim
/-- of a list and a tuple alone -/
theorem pi_enz {elts : List Expr} {kn : Nat} {tpos : Pos} {a b : Expr} {p p2 pos pos2 : Pos} {f g : Sl → O D} (hg : Gl X "enumerate") (hm : X.mg "enumerate" = none) (hg2 : Gl X "zip") (hm2 : X.mg "zip" = none) (ha : PE X a (rdD X.K X.w fa Ex f)) (hb : PE X b (rdD X.K X.w fa Ex g)) (hs1 : starEach [a, b] X.env = (false, eval a X.env) :: starEach [b] X.env) (hs2 : starEach [b] X.env = (false, eval b X.env) :: starEach [] X.env) :
    PI X (.Tuple elts kn tpos) (.Call (.Name "enumerate" p) [.Call (.Name "zip" p2) [a, b] [] pos2] [] pos) (rdI X.K X.w fa Ex fun ρ => (f ρ).bind fun x ρ => (g ρ).bind fun y ρ => match x, y with
    | .list xs, .tuple ys => .ok (enumD 0 (List.zipWith (fun x y => .tuple [x, y]) xs ys)) ρ
    | _, _ => .bad) := by
  refine PI.weak (pi_enumZ hg hm hg2 hm2 (pa_cons ha (pa_cons hb pa_nil hs2) hs1) hs1 (by rw [hs2]; rfl)) fun σ H R ⟨ρ, sr, q⟩ => ⟨ρ, sr, Rdg.imp (Rdg.bind q) fun x ρ1 H1 s1 q1 v rv => ⟨ρ1, s1.sr, Rdg.imp (Rdg.bind q1) fun y ρ2 H2 s2 q2 u ru => ?_⟩⟩
  have rv := RD.mono s2.mo _ _ rv
  cases x with
  | list xs =>
    cases y with
    | tuple ys =>
      cases rv with
      | lst h1 r1 =>
        cases ru with
        | tup h2 r2 => exact ⟨_, _, _, _, rfl, h1.rd.sq, h2, q2 H2 (Stp.refl _ _ _ s2.sr) _ _ wlk_enumZ ⟨⟨_, r1, .inl h1⟩, _, r2, h2⟩⟩
    | _ => exact q2.elim
  | _ => exact q2.elim
end
end FF
end
section
set_option Elab.async false
set_option linter.all false
set_option maxRecDepth 100000
set_option maxHeartbeats 4000000
/-! HD: what is checked holds: all expressions. -/
namespace FF
open PySem PySem.Spec PyProof.Rows L2 PySem.W
section
variable {fa xa : Nat → Addr} {kk : Nat}
theorem kB_ok {Ex : Nat → Hp → Prop} {X : Cx} {x : D} {c : Const} {k : Nat} {pos : Pos} (h : kB x c = true) : ∃ v, PE X (.Constant c k pos) (tC v) ∧ ∀ H, RD X.K X.w H v x := by
  unfold kB at h
  split at h
  · have := of_decide_eq_true h; subst this; exact ⟨_, pe_int, fun H => .int _⟩
  · have := eq_of_beq h; subst this; exact ⟨_, pe_bl, fun H => .bl _⟩
  · have := of_decide_eq_true h; subst this; exact ⟨_, pe_str, fun H => .str _⟩
  · exact ⟨_, pe_non, fun H => .non⟩
  · cases h
theorem pw_of {X : Cx} {op : BoolOp} {xs : List Expr} {p : Pos} {t : TT} (h : PT X (.BoolOp op xs p) t) : PW X (.BoolOp op xs p) t := ⟨fun whole pins s σ H Q I q => h.run pins s σ H Q I q⟩
theorem sto_ok {Z : Ctx} {Γ : Nat → FunD} {Ex : Nat → Hp → Prop} {X : Cx} (g : Gd Z Γ fa xa Ex kk X) {i : Nat} {x : Str} (h : stoB Z i x = true) : X.N[i]? = some x ∧ Loc X.env.scope x ∧ (X.fn x = true ∨ X.env.scope.names.lookup x = some .local) ∧ i ∈ Z.may := by
  unfold stoB at h
  rw [Bool.and_eq_true, Bool.and_eq_true] at h
  refine ⟨by rw [g.N]; exact of_decide_eq_true h.1.1, ?_⟩
  have h2 := h.2
  have h3 := List.contains_iff_mem.mp h.1.2
  split at h2
  · rename_i e
    rw [g.sc]
    exact ⟨.inl e, .inr e, h3⟩
  · rename_i e
    rw [g.sc]
    exact ⟨.inr e, .inl (g.fn h2 x), h3⟩
  · cases h2
theorem own_map {N : List Str} {own : List Nat} : (own.map fun i => (N.getD i Str.empty, i)).map (·.2) = own := by
  rw [List.map_map]
  exact List.map_id own
theorem gs_len {Z : Ctx} {env : Env} : ∀ {ts : Ts} {xs : List Expr}, okGs Z ts xs = true → (assignEach xs env).length = tsLen ts ∧ (assignEach xs env).findIdx? (·.1) = none
  | .nil, xs, h => by
    simp only [okGs] at h
    split at h
    · exact ⟨rfl, rfl⟩
    · cases h
  | .cons t ts, xs, h => by
    simp only [okGs] at h
    split at h
    · rw [Bool.and_eq_true, Bool.and_eq_true] at h
      obtain ⟨h1, h2⟩ := gs_len (env := env) h.2
      rw [noStar_asg h.1.2]
      refine ⟨by rw [List.length_cons, h1]; rfl, ?_⟩
      rw [List.findIdx?_cons]
      simp only [Bool.false_eq_true, ↓reduceIte]
      rw [h2]; rfl
    · cases h
theorem sub_asg {x : Expr} {y : Str} {p pos : Pos} {env : Env} (h : plainIxB x = true) (v : Value) : assign (.Subscript (.Name y p) x pos) env v = (do
      let ov ← holding [v] (eval (.Name y p) env)
      let iv ← holding [v, ov] (eval x env)
      standAt pos
      holding [v, ov, iv] (setItem ov iv v)
      release [v, ov, iv] []) := by
  cases x <;> first | (cases h; done) | rfl
/-- a comprehension, put together -/
theorem lc_make {Z : Ctx} {Γ : Nat → FunD} {Ex : Nat → Hp → Prop} {X : Cx} {src : Src} {tg it : Expr} {own : List Nat} {t : D → Sl → O Unit} {c : Sl → O Bool} {e : Sl → O D} (g : Gd Z Γ fa xa Ex kk X) (ok : okI Z src tg it = true)
    (lk : lkB own src = true) (hi : (∀ i, src ≠ .lk i) → PI X tg it (rdI X.K X.w fa Ex (evSrc Γ src))) :
    ∃ wi, PI X tg it wi ∧ ∀ σ H Q, rdW X.K X.w fa Ex (fun ρ₀ => (evSrc Γ src ρ₀).bind fun xs ρ =>
      match lcLoop own (lcTurn t c e) xs [] (wipeW ρ own) with
      | .ok ys ρ' => (match freeS src ρ₀ (backW ρ ρ' own) with
        | some ρ'' => .ok (.ol ys) ρ''
        | none => .bad)
      | _ => .bad) σ H Q → tLc wi (rdG X.K X.w fa (fun i => i ∉ own) NoX t) (rdT X.K X.w fa NoX c) (rdD X.K X.w fa NoX e) own σ H Q := by
  by_cases hl : ∃ i, src = .lk i
  · obtain ⟨i, rfl⟩ := hl
    simp only [okI] at ok
    split at ok
    · have n := nm_ok g ok
      refine ⟨_, pi_lk (fa := fa) n, fun σ H Q q => ?_⟩
      have ni : i ∉ own := by simpa [lkB] using lk
      refine lc_lk (Ex := Ex) ni (Eq.mp (congrArg (fun f => rdW X.K X.w fa Ex f σ H Q) (Eq.symm ?_)) q)
      show (fun ρ₀ => (lockW i ρ₀).bind fun xs ρ => match lcLoop own (lcTurn t c e) xs [] (wipeW ρ own) with
        | .ok ys ρ' => (match freeW i ρ₀ (backW ρ ρ' own) with
          | some ρ'' => (.ok (.ol ys) ρ'' : O W)
          | none => .bad)
        | _ => .bad) = (fun ρ₀ => (evSrc Γ (.lk i) ρ₀).bind fun xs ρ => match lcLoop own (lcTurn t c e) xs [] (wipeW ρ own) with
        | .ok ys ρ' => (match freeS (.lk i) ρ₀ (backW ρ ρ' own) with
          | some ρ'' => .ok (.ol ys) ρ''
          | none => .bad)
        | _ => .bad)
      funext ρ₀
      rw [evSrc]
      rfl
    · cases ok
  · have hn : ∀ i, src ≠ .lk i := fun i z => hl ⟨i, z⟩
    refine ⟨_, hi hn, fun σ H Q q => lc_src (Ex := Ex) (Eq.mp (congrArg (fun f => rdW X.K X.w fa Ex f σ H Q) (Eq.symm ?_)) q)⟩
    show (fun ρ₀ => (evSrc Γ src ρ₀).bind fun xs ρ => match lcLoop own (lcTurn t c e) xs [] (wipeW ρ own) with
      | .ok ys ρ' => (.ok (.ol ys) (backW ρ ρ' own) : O W)
      | _ => .bad) = (fun ρ₀ => (evSrc Γ src ρ₀).bind fun xs ρ => match lcLoop own (lcTurn t c e) xs [] (wipeW ρ own) with
      | .ok ys ρ' => (match freeS src ρ₀ (backW ρ ρ' own) with
        | some ρ'' => .ok (.ol ys) ρ''
        | none => .bad)
      | _ => .bad)
    funext ρ₀
    congr 1
    funext xs ρ
    cases lcLoop own (lcTurn t c e) xs [] (wipeW ρ own) with
    | ok ys ρ' =>
      have : freeS src ρ₀ (backW ρ ρ' own) = some (backW ρ ρ' own) := by
        cases src <;> first | rfl | exact absurd rfl (hn _)
      dsimp only
      rw [this]
    | _ => rfl
theorem fold_ok {Z : Ctx} {src : Src} {tg it : Expr} (ok : okI Z src tg it = true) (env : Env) (x : Value) : foldedSetIterable it env x = pure x := by
  cases src <;> simp only [okI] at ok
  case it a =>
    rw [Bool.and_eq_true] at ok
    exact noSet_fold ok.2 x
  all_goals first | (cases ok; done) | (split at ok <;> first | rfl | (cases ok; done))
theorem blk_ok {Z : Ctx} {Γ : Nat → FunD} {Ex : Nat → Hp → Prop} {X : Cx} {own : List Nat} {scope : Scope} (g : Gd Z Γ fa xa Ex kk X) (h : blkC Z.N Z.sc scope (own.map fun i => (Z.N.getD i Str.empty, i)) = true) : BlkOk X.N X.env.scope scope (own.map fun i => (Z.N.getD i Str.empty, i)) := by
  rw [g.N, g.sc]
  exact blkOk_by h
theorem few_ok {Z : Ctx} {e : E} {es : Es} {x : Expr} {xs : List Expr} {env : Env} {pos : Pos} (h : okEs Z (.cons e es) (x :: xs) = true) (hl : (x :: xs).length < 30) : ((backTo pos (starEach (x :: xs) env)).all (fun x => !x.1) && (backToKw pos (keywordEach [] env)).all (fun x => x.1.isSome)
      && decide ((x :: xs).length + ([] : List Keyword).length + (if ([] : List Keyword).isEmpty then 0 else 1) < 30)) = true := by
  have h1 : (backTo pos (starEach (x :: xs) env)).all (fun x => !x.1) = true := by
    rw [List.all_eq_true]
    intro p hp
    have := starPl (env := env) (pos := pos) h
    rw [List.any_eq_false] at this
    simpa using this p hp
  rw [h1]
  have h2 : decide ((x :: xs).length + ([] : List Keyword).length + (if ([] : List Keyword).isEmpty then 0 else 1) < 30) = true := decide_eq_true (by simpa using hl)
  rw [h2]
  rfl
variable (Γ : Nat → FunD)
mutual
theorem sE : ∀ (e : E) (x : Expr) (Z : Ctx) (X : Cx) (Ex : Nat → Hp → Prop), okE Z e x = true → Gd Z Γ fa xa Ex kk X → PE X x (rdW X.K X.w fa Ex (evW Γ e))
  | .k d, x, Z, X, Ex, h, g => by
    simp only [okE] at h
    split at h
    · obtain ⟨v, h1, h2⟩ := kB_ok (Ex := Ex) (X := X) h
      exact PE.cong (rd_c h1 h2) fun ρ => by rw [evW]
    · cases h
  | .g n d, x, Z, X, Ex, h, g => by
    simp only [okE] at h
    split at h
    · rename_i y p
      rw [Bool.and_eq_true] at h
      obtain ⟨h1, h2⟩ := h
      split at h2
      · rename_i z d' e
        rw [Bool.and_eq_true] at h2
        have e1 := of_decide_eq_true h2.1
        have e2 := dEq_eq _ _ h2.2
        subst e1 e2
        obtain ⟨u, v, g1, g2, g3⟩ := g.gl _ _ _ e
        exact PE.cong (rd_c (pe_glob (pos := p) (gl_ok g h1).1 g1 g2 (gl_ok g h1).2) g3) fun ρ => by rw [evW]
      · cases h2
    · cases h
  | .fnk f, x, Z, X, Ex, h, g => by
    simp only [okE] at h
    split at h
    · rename_i y p
      rw [Bool.and_eq_true] at h
      obtain ⟨h1, h2⟩ := h
      split at h2
      · rename_i z n e
        have e1 := of_decide_eq_true h2
        subst e1
        obtain ⟨_, _, gf⟩ := g.rf
        refine PE.weak (rd_fn1 (p := p) g h1 (gf _ _ _ e)) fun σ H Q ⟨ρ, sr, q⟩ => ?_
        rw [evW] at q
        exact q H (Stp.refl _ _ _ sr) _ ⟨rfl, (by intro z; cases z), rfl, fun a z => nomatch z⟩
      · cases h2
    · cases h
  | .var i, x, Z, X, Ex, h, g => by
    simp only [okE] at h
    split at h
    · have n := nm_ok g h
      exact PE.cong (pe_rd n.at_ n.vis n.nd n.nc) fun ρ => by rw [evW]
    · cases h
  | .mv i, x, Z, X, Ex, h, g => by
    simp only [okE] at h
    split at h
    · have n := nm_ok g h
      exact PE.cong (pe_mv n.at_ n.vis n.nd n.nc) fun ρ => by rw [evW]
    · cases h
  | .tup es, x, Z, X, Ex, h, g => by
    simp only [okE] at h
    split at h
    · exact PE.cong (pe_tup_ (sDs es _ Z X Ex h g)) fun ρ => by rw [evW]
    · cases h
  | .lst es, x, Z, X, Ex, h, g => by
    simp only [okE] at h
    split at h
    · exact PE.cong (pe_lst_ (sDs es _ Z X Ex h g)) fun ρ => by rw [evW]
    · cases h
  | .dsp ps, x, Z, X, Ex, h, g => by
    simp only [okE] at h
    split at h
    · exact PE.cong (sPs ps _ _ Z X Ex h g) fun ρ => by rw [evW]
    · cases h
  | .neg a, x, Z, X, Ex, h, g => by
    simp only [okE] at h
    split at h
    · exact PE.cong (rd_un (pe_un ev_neg (opA g h (sE a _ Z X Ex h g)))) fun ρ => by rw [evW] <;> rfl
    · cases h
  | .not a, x, Z, X, Ex, h, g => by
    simp only [okE] at h
    split at h
    · refine PE.weak (pe_not (pe_dat (sE a _ Z X Ex h g))) fun σ H Q ⟨ρ, sr, q⟩ => ⟨ρ, sr, ?_⟩
      rw [evW] at q
      refine q.bind.imp fun y ρ1 H1 s1 q1 v rv => ?_
      cases y with
      | bool b => cases rv; exact ⟨b, rfl, q1 H1 (Stp.refl _ _ _ s1.sr) _ (WR.dat (.bl _))⟩
      | _ => exact q1.elim
    · cases h
  | .bin o a b, x, Z, X, Ex, h, g => by
    simp only [okE] at h
    split at h
    · simp only [Bool.and_eq_true] at h
      obtain ⟨⟨h1, h2⟩, h3⟩ := h
      exact PE.cong (rd_op (pe_op (bop_ok h1) (opA g h2 (sE a _ Z X Ex h2 g)) (opA g h3 (sE b _ Z X Ex h3 g)))) fun ρ => by rw [evW]
    · cases h
  | .cmp o a b, x, Z, X, Ex, h, g => by
    simp only [okE] at h
    split at h
    · simp only [Bool.and_eq_true] at h
      obtain ⟨⟨⟨h1, h2⟩, h3⟩, h4⟩ := h
      exact PE.cong (rd_op (pe_cmpR (cop_ok (units g) h1) (opA g h2 (sE a _ Z X Ex h2 g)) (opA g h3 (sE b _ Z X Ex h3 g)) (noSet_ok h4))) fun ρ => by rw [evW] <;> rfl
    · cases h
  | .chain o o' a b c, x, Z, X, Ex, h, g => by
    simp only [okE] at h
    split at h
    · simp only [Bool.and_eq_true] at h
      obtain ⟨⟨⟨⟨⟨h1, h2⟩, h3⟩, h4⟩, h5⟩, h6⟩ := h
      exact PE.cong (rd_chain (pe_chain (cop_ok (units g) h1) (cop_ok (units g) h2) (opA g h3 (sE a _ Z X Ex h3 g)) (opA g h4 (sE b _ Z X Ex h4 g)) (opA g h5 (sE c _ Z X Ex h5 g)) (noSet_last h6))) fun ρ => by rw [evW] <;> rfl
    · cases h
  | .and a b, x, Z, X, Ex, h, g => by
    simp only [okE] at h
    split at h
    · simp only [Bool.and_eq_true] at h
      exact PE.cong (rd_and (pe_and (pe_dat (sE a _ Z X Ex h.1 g)) (sE b _ Z X Ex h.2 g))) fun ρ => by rw [evW] <;> rfl
    · cases h
  | .or a b, x, Z, X, Ex, h, g => by
    simp only [okE] at h
    split at h
    · simp only [Bool.and_eq_true] at h
      exact PE.cong (rd_or (pe_or (pe_dat (sE a _ Z X Ex h.1 g)) (sE b _ Z X Ex h.2 g))) fun ρ => by rw [evW] <;> rfl
    · cases h
  | .one a, x, Z, X, Ex, h, g => by
    simp only [okE] at h
    split at h
    · exact PE.cong (pe_one (sE a _ Z X Ex h g)) fun ρ => by rw [evW]
    · cases h
  | .ife c a b, x, Z, X, Ex, h, g => by
    simp only [okE] at h
    split at h
    · simp only [Bool.and_eq_true] at h
      exact PE.cong (rd_ife (pe_ifExp (sT c _ Z X Ex h.1.1 g) (sE a _ Z X Ex h.1.2 g) (sE b _ Z X Ex h.2 g))) fun ρ => by rw [evW]
    · cases h
  | .idx a i, x, Z, X, Ex, h, g => by
    simp only [okE] at h
    split at h
    · simp only [Bool.and_eq_true] at h
      exact PE.cong (rd_op (pe_ix (ev_idx (units g)) (opA g h.1.1 (sE a _ Z X Ex h.1.1 g)) (opA g h.1.2 (sE i _ Z X Ex h.1.2 g)) (plainIx_ok h.2))) fun ρ => by rw [evW]
    · cases h
  | .slc a lo hi, x, Z, X, Ex, h, g => by
    simp only [okE] at h
    split at h
    · simp only [Bool.and_eq_true] at h
      exact PE.cong (rd_slc (opA g h.1.1 (sE a _ Z X Ex h.1.1 g)) (sO lo _ Z X Ex h.1.2 g) (sO hi _ Z X Ex h.2 g)) fun ρ => by rw [evW]
    · cases h
  | .call f es, x, Z, X, Ex, h, g => by
    simp only [okE] at h
    split at h
    · have h3 := h
      rw [Bool.and_eq_true] at h3
      exact PE.cong (callE g h (sAs es _ Z X Ex h3.2 g)) fun ρ => by rw [evW]
    · rename_i y p args pos i k2 p2 pos2
      rw [Bool.and_eq_true] at h
      obtain ⟨h0, h⟩ := h
      have h0 := of_decide_eq_true h0
      subst h0
      have h3 := h
      rw [Bool.and_eq_true, Bool.and_eq_true] at h3
      exact PE.cong (callO g h (sAs es _ Z X Ex h3.1.2 g)) fun ρ => by rw [evW]
    · cases h
  | .bi b es, x, Z, X, Ex, h, g => by
    simp only [okE] at h
    split at h
    · have h3 := h
      rw [Bool.and_eq_true, Bool.and_eq_true] at h3
      exact PE.cong (biE g h (sAs es _ Z X Ex h3.1.2 g)) fun ρ => by rw [evW] <;> rfl
    · cases h
  | .isi t a, x, Z, X, Ex, h, g => by
    simp only [okE] at h
    split at h
    · rw [Bool.and_eq_true, Bool.and_eq_true, Bool.and_eq_true, Bool.and_eq_true] at h
      exact PE.cong (isiE g h.1.1.1.1 h.1.1.1.2 (of_decide_eq_true h.1.1.2) h.2 (opA g h.1.2 (sE a _ Z X Ex h.1.2 g))) fun ρ => by rw [evW]
    · cases h
  | .app i a, x, Z, X, Ex, h, g => by
    simp only [okE] at h
    split at h
    · simp only [Bool.and_eq_true] at h
      have e := of_decide_eq_true h.1.1.1.2
      subst e
      exact PE.cong (rd_app (nm_ok g h.1.1.1.1) (pe_dat (sE a _ Z X Ex h.1.1.2 g)) (noStar_ok h.1.2) h.2) fun ρ => by rw [evW] <;> rfl
    · cases h
  | .mto m i es, x, Z, X, Ex, h, g => by
    simp only [okE] at h
    split at h
    · rename_i y p n apos args cpos
      simp only [Bool.and_eq_true] at h
      obtain ⟨⟨⟨⟨⟨⟨h1, h2⟩, h3⟩, h4⟩, h5⟩, h6⟩, h7⟩ := h
      have e := of_decide_eq_true h2
      have h6 := of_decide_eq_true h6
      have nm := nm_ok g h1
      cases m with
      | extend =>
        have h7 := of_decide_eq_true h7
        cases es with
        | nil => exact absurd rfl h7
        | cons a es =>
          cases args with
          | nil => simp [okEs] at h4
          | cons z r =>
            have hs := h4
            simp only [okEs, Bool.and_eq_true] at hs
            subst e
            exact PE.cong (rd_mto ok_ext F.slot_list_extend F.type_list_extend mt_extR nm (sAs (.cons a es) _ Z X Ex h4 g) (noStar_ok hs.1.2) h5 (few_ok h4 h6) (starPl hs.2)) fun ρ => by rw [evW] <;> rfl
      | popAt =>
        have h7 := of_decide_eq_true h7
        cases es with
        | nil => exact absurd rfl h7
        | cons a es =>
          cases args with
          | nil => simp [okEs] at h4
          | cons z r =>
            have hs := h4
            simp only [okEs, Bool.and_eq_true] at hs
            subst e
            exact PE.cong (rd_mto ok_popAt F.slot_list_pop F.type_list_pop mt_popAt nm (sAs (.cons a es) _ Z X Ex h4 g) (noStar_ok hs.1.2) h5 (few_ok h4 h6) (starPl hs.2)) fun ρ => by rw [evW] <;> rfl
      | pop =>
        have h7 := of_decide_eq_true h7
        cases es with
        | cons a es => cases h7
        | nil =>
          cases args with
          | cons z r => simp [okEs] at h4
          | nil =>
            subst e
            refine PE.cong (rd_mto0 ok_pop F.slot_list_pop F.type_list_pop mt_pop nm h5) fun ρ => ?_
            rw [evW]
            cases ρ[i]? with
            | none => rfl
            | some w => cases w <;> first | rfl | (simp only [evAs])
      | _ => cases h7
    · cases h
  | .lc own t s c a, x, Z, X, Ex, h, g => by
    simp only [okE] at h
    split at h
    · rename_i elt tg it ifs scope pos
      simp only [Bool.and_eq_true] at h
      obtain ⟨⟨⟨⟨⟨h1, h2⟩, h3⟩, h4⟩, h5⟩, h6⟩ := h
      obtain ⟨wi, w1, w2⟩ := lc_make (t := fun x ρ => asgT Γ t (.d x) ρ) (c := fun ρ => evCs Γ c ρ) (e := fun ρ => dat (evW Γ a ρ)) g h1 h3 fun hn => sI s tg it Z X Ex hn h1 g
      refine PE.weak (pe_lc (te := rdD X.K X.w fa NoX fun ρ => dat (evW Γ a ρ)) (tt := rdT X.K X.w fa NoX fun ρ => evCs Γ c ρ) (g := rdG X.K X.w fa (fun i => i ∉ own) NoX fun x ρ => asgT Γ t (.d x) ρ) g.calm g.nd w1 (blk_ok g h2) (fun s H C cl fp => sG t tg _ _ _ h4 (g.blk scope own s H C cl fp)) (fun s H C cl fp => sC c ifs _ _ _ h5 (g.blk scope own s H C cl fp)) (fun s H C cl fp => pe_dat (sE a elt _ _ _ h6 (g.blk scope own s H C cl fp))) (fold_ok h1 X.env)) fun σ H Q q => ?_
      rw [own_map]
      have e1 : evW Γ (.lc own t s c a) = _ := funext fun ρ => by rw [evW]
      rw [e1] at q
      exact w2 σ H Q q
    · cases h
  | .callv i fs es, x, Z, X, Ex, h, g => by
    simp only [okE] at h
    split at h
    · have h3 := h
      rw [Bool.and_eq_true, Bool.and_eq_true] at h3
      exact PE.cong (callvE g h (sAs es _ Z X Ex h3.1.2 g)) fun ρ => by rw [evW] <;> rfl
    · cases h
  | .mt m a es, x, Z, X, Ex, h, g => by
    simp only [okE] at h
    split at h
    · rename_i o n apos args cpos
      simp only [Bool.and_eq_true] at h
      obtain ⟨⟨⟨⟨⟨h1, h2⟩, h3⟩, h4⟩, h5⟩, h6⟩ := h
      have h3 := of_decide_eq_true h3
      subst h3
      have ho := opA g h1 (sE a o Z X Ex h1 g)
      split at h6
      · rename_i y
        cases es with
        | nil => simp [okEs] at h4
        | cons b es =>
          simp only [okEs, Bool.and_eq_true] at h4
          cases es with
          | cons _ _ => simp [okEs] at h4
          | nil => exact PE.cong (rd_mt1 F.slot_str_join F.type_str_join m_join ho (opA g h4.1.1 (sE b y Z X Ex h4.1.1 g)) (noStar_ok h4.1.2) (base_ok h2) h5) fun ρ => by rw [evW]; rfl
      · rename_i y
        cases es with
        | nil => simp [okEs] at h4
        | cons b es =>
          simp only [okEs, Bool.and_eq_true] at h4
          cases es with
          | cons _ _ => simp [okEs] at h4
          | nil => exact PE.cong (rd_mt1 F.slot_str_split F.type_str_split m_split ho (opA g h4.1.1 (sE b y Z X Ex h4.1.1 g)) (noStar_ok h4.1.2) (base_ok h2) h5) fun ρ => by rw [evW]; rfl
      · rename_i y
        cases es with
        | nil => simp [okEs] at h4
        | cons b es =>
          simp only [okEs, Bool.and_eq_true] at h4
          cases es with
          | cons _ _ => simp [okEs] at h4
          | nil => exact PE.cong (rd_mt1 F.slot_str_index F.type_str_index m_index ho (opA g h4.1.1 (sE b y Z X Ex h4.1.1 g)) (noStar_ok h4.1.2) (base_ok h2) h5) fun ρ => by rw [evW]; rfl
      · cases es with
        | cons _ _ => simp [okEs] at h4
        | nil => exact PE.cong (rd_mt0 F.slot_str_upper F.type_str_upper m_upper ho (base_ok h2) h5) fun ρ => by rw [evW]; rfl
      · cases h6
    · cases h
  | .upd i a, x, Z, X, Ex, h, g => by simp [okE] at h
  | .sdap i k a, x, Z, X, Ex, h, g => by simp [okE] at h
  | .rev a, x, Z, X, Ex, h, g => by simp [okE] at h
  | .srtk own i a k, x, Z, X, Ex, h, g => by simp [okE] at h
  | .dc own t s c k v, x, Z, X, Ex, h, g => by simp [okE] at h
  | .fstr es, x, Z, X, Ex, h, g => by
    simp only [okE] at h
    split at h
    · rename_i y z r pos
      obtain ⟨ts, h1, h2⟩ := sJ es (y :: z :: r) Z X Ex h g
      refine PE.weak (pe_joined h1) fun σ H Q ⟨ρ, sr, q⟩ => ?_
      rw [evW] at q
      exact h2 Str.empty σ H _ ⟨ρ, sr, q.bind.imp fun xs ρ1 H1 s1 q1 => q1 H1 (Stp.refl _ _ _ s1.sr) _ (WR.dat (.str _))⟩
    · cases h
  | .told ks a, x, Z, X, Ex, h, g => by
    simp only [okE] at h
    split at h
    · rename_i y p params body scope lp pos
      simp only [Bool.and_eq_true] at h
      obtain ⟨⟨⟨⟨⟨h1, h2⟩, h3⟩, h4⟩, h5⟩, h6⟩ := h
      have h1 := of_decide_eq_true h1
      subst h1
      have hk : Z.lam = some ks := by
        split at h3
        · rename_i e; rw [e, of_decide_eq_true h3]
        · cases h3
      have hp : params = noArgs := by
        unfold noArgsB at h4
        split at h4
        · rfl
        · cases h4
      subst hp
      obtain ⟨k2, TM, FE, F⟩ := g.lam ks hk
      exact PE.cong (told_rd (Ex := Ex) F (gl_ok g h2).1 (LamX.lamS_by (by rw [g.sc]; exact h5)) fun A outer s H E fn c' hr => pe_dat (sE a body (Z.lamC scope) _ _ h6 (g.lamG F scope A outer s H E fn c' hr))) fun ρ => by rw [evW] <;> rfl
    · cases h
  | .lsi a, x, Z, X, Ex, h, g => by simp [okE] at h
  | .lsv a, x, Z, X, Ex, h, g => by simp [okE] at h
  | .mxv a, x, Z, X, Ex, h, g => by simp [okE] at h
  | .lsz a b, x, Z, X, Ex, h, g => by simp [okE] at h
theorem sT : ∀ (e : E) (x : Expr) (Z : Ctx) (X : Cx) (Ex : Nat → Hp → Prop), okT Z e x = true → Gd Z Γ fa xa Ex kk X → PT X x (rdT X.K X.w fa Ex (evT Γ e))
  | .and a b, x, Z, X, Ex, h, g => by
    simp only [okT] at h
    split at h
    · simp only [Bool.and_eq_true] at h
      exact PT.cong (rd_andT (pw_and (sT a _ Z X Ex h.1 g) (pw_of (sT b _ Z X Ex h.2 g))).pt) fun ρ => by rw [evT]
    · cases h
  | .or a b, x, Z, X, Ex, h, g => by
    simp only [okT] at h
    split at h
    · simp only [Bool.and_eq_true] at h
      exact PT.cong (rd_orT (pw_or (sT a _ Z X Ex h.1 g) (pw_of (sT b _ Z X Ex h.2 g))).pt) fun ρ => by rw [evT]
    · cases h
  | .one a, x, Z, X, Ex, h, g => by
    simp only [okT] at h
    split at h
    · rename_i op y p
      have := sT a y Z X Ex h g
      cases op with
      | And => exact PT.cong (pw_and1 this).pt fun ρ => by rw [evT]
      | Or => exact PT.cong (pw_or1 this).pt fun ρ => by rw [evT]
    · cases h
  | .not a, x, Z, X, Ex, h, g => by
    simp only [okT] at h
    split at h
    · exact PT.cong (rd_notT (pt_not (sT a _ Z X Ex h g))) fun ρ => by rw [evT]
    · cases h
  | .var i, x, Z, X, Ex, h, g => by
    simp only [okT] at h
    split at h
    · have n := nm_ok g h
      exact PT.cong (rd_truA (pe_pk n.at_ n.vis n.nd n.nc) (value_ok rfl)) fun ρ => by rw [evT] <;> rfl
    · cases h
  | .cmp o a b, x, Z, X, Ex, h, g => by
    simp only [okT] at h
    split at h
    · simp only [Bool.and_eq_true] at h
      obtain ⟨⟨⟨h1, h2⟩, h3⟩, h4⟩ := h
      exact PT.cong (rd_opT (pt_cmpR (cop_ok (units g) h1) (opA g h2 (sE a _ Z X Ex h2 g)) (opA g h3 (sE b _ Z X Ex h3 g)) (noSet_ok h4))) fun ρ => by rw [evT] <;> rfl
    · cases h
  | .chain o o' a b c, x, Z, X, Ex, h, g => by
    simp only [okT] at h
    split at h
    · simp only [Bool.and_eq_true] at h
      obtain ⟨⟨⟨⟨⟨h1, h2⟩, h3⟩, h4⟩, h5⟩, h6⟩ := h
      exact PT.cong (rd_chainT (pt_chain (cop_ok (units g) h1) (cop_ok (units g) h2) (opA g h3 (sE a _ Z X Ex h3 g)) (opA g h4 (sE b _ Z X Ex h4 g)) (opA g h5 (sE c _ Z X Ex h5 g)) (noSet_last h6))) fun ρ => by rw [evT] <;> rfl
    · cases h
  | .idx a i, x, Z, X, Ex, h, g => by
    simp only [okT] at h
    split at h
    · simp only [Bool.and_eq_true] at h
      exact PT.cong (rd_tru (rd_op (pe_ix (ev_idx (units g)) (opA g h.1.1 (sE a _ Z X Ex h.1.1 g)) (opA g h.1.2 (sE i _ Z X Ex h.1.2 g)) (plainIx_ok h.2))) (value_ok rfl)) fun ρ => by rw [evT] <;> rfl
    · cases h
  | .call f es, x, Z, X, Ex, h, g => by
    simp only [okT] at h
    split at h
    · have h3 := h
      rw [Bool.and_eq_true] at h3
      exact PT.cong (rd_tru (callE g h (sAs es _ Z X Ex h3.2 g)) (value_ok rfl)) fun ρ => by rw [evT] <;> rfl
    · cases h
  | .bi b es, x, Z, X, Ex, h, g => by
    simp only [okT] at h
    split at h
    · have h3 := h
      rw [Bool.and_eq_true, Bool.and_eq_true] at h3
      exact PT.cong (rd_tru (biE g h (sAs es _ Z X Ex h3.1.2 g)) (value_ok rfl)) fun ρ => by rw [evT] <;> rfl
    · cases h
  | .isi t a, x, Z, X, Ex, h, g => by
    simp only [okT] at h
    split at h
    · rw [Bool.and_eq_true, Bool.and_eq_true, Bool.and_eq_true, Bool.and_eq_true] at h
      exact PT.cong (rd_tru (isiE g h.1.1.1.1 h.1.1.1.2 (of_decide_eq_true h.1.1.2) h.2 (opA g h.1.2 (sE a _ Z X Ex h.1.2 g))) (value_ok rfl)) fun ρ => by rw [evT] <;> rfl
    · cases h
  | .k d, x, Z, X, Ex, h, g => by simp [okT] at h
  | .g n d, x, Z, X, Ex, h, g => by simp [okT] at h
  | .fnk f, x, Z, X, Ex, h, g => by simp [okT] at h
  | .mv i, x, Z, X, Ex, h, g => by simp [okT] at h
  | .tup es, x, Z, X, Ex, h, g => by simp [okT] at h
  | .lst es, x, Z, X, Ex, h, g => by simp [okT] at h
  | .dsp es, x, Z, X, Ex, h, g => by simp [okT] at h
  | .neg a, x, Z, X, Ex, h, g => by simp [okT] at h
  | .bin o a b, x, Z, X, Ex, h, g => by simp [okT] at h
  | .ife c a b, x, Z, X, Ex, h, g => by simp [okT] at h
  | .slc a l u, x, Z, X, Ex, h, g => by simp [okT] at h
  | .app i a, x, Z, X, Ex, h, g => by simp [okT] at h
  | .mto m i es, x, Z, X, Ex, h, g => by simp [okT] at h
  | .lc own t s c a, x, Z, X, Ex, h, g => by simp [okT] at h
  | .callv i fs es, x, Z, X, Ex, h, g => by simp [okT] at h
  | .mt m a es, x, Z, X, Ex, h, g => by simp [okT] at h
  | .upd i a, x, Z, X, Ex, h, g => by simp [okT] at h
  | .sdap i k a, x, Z, X, Ex, h, g => by simp [okT] at h
  | .rev a, x, Z, X, Ex, h, g => by simp [okT] at h
  | .srtk own i a k, x, Z, X, Ex, h, g => by simp [okT] at h
  | .dc own t s c k v, x, Z, X, Ex, h, g => by simp [okT] at h
  | .fstr es, x, Z, X, Ex, h, g => by simp [okT] at h
  | .told ks a, x, Z, X, Ex, h, g => by simp [okT] at h
  | .lsi a, x, Z, X, Ex, h, g => by simp [okT] at h
  | .lsv a, x, Z, X, Ex, h, g => by simp [okT] at h
  | .mxv a, x, Z, X, Ex, h, g => by simp [okT] at h
  | .lsz a b, x, Z, X, Ex, h, g => by simp [okT] at h
theorem sC : ∀ (es : Es) (xs : List Expr) (Z : Ctx) (X : Cx) (Ex : Nat → Hp → Prop), okC Z es xs = true → Gd Z Γ fa xa Ex kk X → PTs X xs (rdT X.K X.w fa Ex (evCs Γ es))
  | .nil, xs, Z, X, Ex, h, g => by
    simp only [okC] at h
    split at h
    · refine ⟨fun pins s σ H Q I ⟨ρ, sr, q⟩ => pts_nil.run pins s σ H Q I ?_⟩
      rw [evCs] at q
      exact q H (Stp.refl _ _ _ sr)
    · cases h
  | .cons e es, xs, Z, X, Ex, h, g => by
    simp only [okC] at h
    split at h
    · have : evCs Γ (.cons e es) = evT Γ e := by funext ρ; rw [evCs]
      rw [this]
      exact pts_one (sT e _ Z X Ex h g)
    · cases h
theorem sI : ∀ (s : Src) (tg it : Expr) (Z : Ctx) (X : Cx) (Ex : Nat → Hp → Prop), (∀ i, s ≠ .lk i) → okI Z s tg it = true → Gd Z Γ fa xa Ex kk X → PI X tg it (rdI X.K X.w fa Ex (evSrc Γ s))
  | .it a, tg, it, Z, X, Ex, hn, h, g => by
    simp only [okI] at h
    rw [Bool.and_eq_true] at h
    have : evSrc Γ (.it a) = _ := funext fun ρ => by rw [evSrc]
    rw [this]
    exact pi_it (pe_dat (sE a _ Z X Ex h.1 g))
  | .lk i, tg, it, Z, X, Ex, hn, h, g => absurd rfl (hn i)
  | .r1 a, tg, it, Z, X, Ex, hn, h, g => by
    simp only [okI] at h
    split at h
    · rw [Bool.and_eq_true, Bool.and_eq_true] at h
      obtain ⟨rfl, hg, hm, hd⟩ := blt_ok g h.1.1
      have : evSrc Γ (.r1 a) = _ := funext fun ρ => by rw [evSrc]
      rw [this]
      exact pi_r1 hg hm (pe_dat (sE a _ Z X Ex h.1.2 g)) (noStar_ok h.2)
    · cases h
  | .r2 a b, tg, it, Z, X, Ex, hn, h, g => by
    simp only [okI] at h
    split at h
    · rw [Bool.and_eq_true, Bool.and_eq_true, Bool.and_eq_true, Bool.and_eq_true] at h
      obtain ⟨rfl, hg, hm, hd⟩ := blt_ok g h.1.1.1.1
      have : evSrc Γ (.r2 a b) = _ := funext fun ρ => by rw [evSrc]
      rw [this]
      have s2 := noStar_ok (es := []) (env := X.env) h.2
      exact pi_r2 hg hm (pe_dat (sE a _ Z X Ex h.1.1.1.2 g)) (pe_dat (sE b _ Z X Ex h.1.1.2 g)) (by rw [noStar_ok h.1.2, s2]; rfl) (noStar_ok h.1.2) s2
    · cases h
  | .zip a b, tg, it, Z, X, Ex, hn, h, g => by
    simp only [okI] at h
    split at h
    · rw [Bool.and_eq_true, Bool.and_eq_true, Bool.and_eq_true, Bool.and_eq_true] at h
      obtain ⟨rfl, hg, hm, hd⟩ := blt_ok g h.1.1.1.1
      have : evSrc Γ (.zip a b) = _ := funext fun ρ => by rw [evSrc]
      rw [this]
      exact pi_zp hg hm (pe_dat (sE a _ Z X Ex h.1.1.1.2 g)) (pe_dat (sE b _ Z X Ex h.1.1.2 g)) (noStar_ok h.1.2) (noStar_ok h.2)
    · cases h
  | .enum a, tg, it, Z, X, Ex, hn, h, g => by
    simp only [okI] at h
    split at h
    · rw [Bool.and_eq_true, Bool.and_eq_true] at h
      obtain ⟨rfl, hg, hm, hd⟩ := blt_ok g h.1.1
      have : evSrc Γ (.enum a) = _ := funext fun ρ => by rw [evSrc]
      rw [this]
      exact pi_en hg hm (pe_dat (sE a _ Z X Ex h.1.2 g)) (noStar_ok h.2)
    · cases h
  | .enumz a b, tg, it, Z, X, Ex, hn, h, g => by
    simp only [okI] at h
    split at h
    · rw [Bool.and_eq_true, Bool.and_eq_true, Bool.and_eq_true, Bool.and_eq_true, Bool.and_eq_true] at h
      obtain ⟨rfl, hg, hm, hd⟩ := blt_ok g h.1.1.1.1.1
      obtain ⟨rfl, hg2, hm2, hd2⟩ := blt_ok g h.1.1.1.1.2
      have : evSrc Γ (.enumz a b) = _ := funext fun ρ => by rw [evSrc]
      rw [this]
      exact pi_enz hg hm hg2 hm2 (pe_dat (sE a _ Z X Ex h.1.1.1.2 g)) (pe_dat (sE b _ Z X Ex h.1.1.2 g)) (noStar_ok h.1.2) (noStar_ok h.2)
    · cases h
  | .items a, tg, it, Z, X, Ex, hn, h, g => by simp [okI] at h
  | .vals a, tg, it, Z, X, Ex, hn, h, g => by simp [okI] at h
theorem sG : ∀ (t : T) (tg : Expr) (Z : Ctx) (X : Cx) (Ex : Nat → Hp → Prop), okG Z t tg = true → Gd Z Γ fa xa Ex kk X → PG X tg (rdG X.K X.w fa (fun i => i ∉ Z.may) Ex fun x ρ => asgT Γ t (.d x) ρ)
  | .nm i, tg, Z, X, Ex, h, g => by
    simp only [okG] at h
    split at h
    · obtain ⟨h1, h2, h3, h4⟩ := sto_ok g h
      have : (fun (x : D) ρ => asgT Γ (.nm i) (.d x) ρ) = fun x ρ => if i < ρ.length then .ok () (ρ.set i (.d x)) else .bad := by
        funext x ρ; rw [asgT]
      rw [this]
      exact gd_name g.nd h1 h2 h3 fun z => z h4
    · cases h
  | .tp ts, tg, Z, X, Ex, h, g => by
    simp only [okG] at h
    split at h
    · rename_i xs k p
      obtain ⟨l1, l2⟩ := gs_len (env := X.env) h
      have : (fun (x : D) ρ => asgT Γ (.tp ts) (.d x) ρ) = fun x ρ => match W.d x with
        | .d (.tuple xs) => if xs.length = tsLen ts then asgTs Γ ts xs ρ else .bad
        | .d (.list xs) => if xs.length = tsLen ts then asgTs Γ ts xs ρ else .bad
        | _ => .bad := by
        funext x ρ
        cases x <;> first | (rw [asgT]; done) | (rw [asgT] <;> first | rfl | (intro _ z; cases z))
      rw [this]
      exact gd_tup g.calm (sGs ts xs Z X Ex h g) l1 l2
    · cases h
  | .sub i a, tg, Z, X, Ex, h, g => by
    simp only [okG] at h
    split at h
    · rename_i y p x pos
      rw [Bool.and_eq_true, Bool.and_eq_true] at h
      have : (fun (x : D) ρ => asgT Γ (.sub i a) (.d x) ρ) = _ := funext fun x => funext fun ρ => by rw [asgT]
      rw [this]
      exact gd_sub (units g) (nm_ok g h.1.1) (opA g h.1.2 (sE a _ Z X Ex h.1.2 g)) (sub_asg h.2)
    · cases h
theorem sGs : ∀ (ts : Ts) (xs : List Expr) (Z : Ctx) (X : Cx) (Ex : Nat → Hp → Prop), okGs Z ts xs = true → Gd Z Γ fa xa Ex kk X → PGs X xs (rdGs X.K X.w fa (fun i => i ∉ Z.may) Ex fun ds ρ => asgTs Γ ts ds ρ)
  | .nil, xs, Z, X, Ex, h, g => by
    simp only [okGs] at h
    split at h
    · have : (fun (ds : List D) ρ => asgTs Γ .nil ds ρ) = fun xs ρ => match xs with
        | [] => .ok () ρ
        | _ => .bad := by
        funext ds ρ; cases ds <;> simp [asgTs]
      rw [this]
      exact gd_nil
    · cases h
  | .cons t ts, xs, Z, X, Ex, h, g => by
    simp only [okGs] at h
    split at h
    · rw [Bool.and_eq_true, Bool.and_eq_true] at h
      have : (fun (ds : List D) ρ => asgTs Γ (.cons t ts) ds ρ) = fun xs ρ => match xs with
        | x :: xs => (asgT Γ t (.d x) ρ).bind fun _ ρ => asgTs Γ ts xs ρ
        | _ => .bad := by
        funext ds ρ; cases ds <;> simp [asgTs]
      rw [this]
      exact gd_cons (sG t _ Z X Ex h.1.1 g) (sGs ts _ Z X Ex h.2 g) (by rw [noStar_asg h.1.2]; rfl)
    · cases h
theorem sAs : ∀ (es : Es) (xs : List Expr) (Z : Ctx) (X : Cx) (Ex : Nat → Hp → Prop), okEs Z es xs = true → Gd Z Γ fa xa Ex kk X → PA X xs (rdAs X.K X.w fa Ex (evAs Γ es))
  | .nil, xs, Z, X, Ex, h, g => by
    simp only [okEs] at h
    split at h
    · have : evAs Γ .nil = fun ρ => .ok [] ρ := by funext ρ; rw [evAs]
      rw [this]; exact pa_nil_
    · cases h
  | .cons e es, xs, Z, X, Ex, h, g => by
    simp only [okEs] at h
    split at h
    · simp only [Bool.and_eq_true] at h
      have : evAs Γ (.cons e es) = fun ρ => (opnd e (evW Γ e ρ) ρ).bind fun x ρ => (evAs Γ es ρ).bind fun xs ρ => .ok (x :: xs) ρ := by funext ρ; rw [evAs]
      rw [this]
      exact pa_cons_ (opA g h.1.1 (sE e _ Z X Ex h.1.1 g)) (sAs es _ Z X Ex h.2 g) (noStar_ok h.1.2)
    · cases h
theorem sJ : ∀ (es : Es) (xs : List Expr) (Z : Ctx) (X : Cx) (Ex : Nat → Hp → Prop), okJ Z es xs = true → Gd Z Γ fa xa Ex kk X → ∃ ts, PJ X xs ts ∧ ∀ acc σ H Q, rdJ X.K X.w fa Ex (evJ Γ es acc) σ H Q → tJs ts acc σ H Q
  | .nil, xs, Z, X, Ex, h, g => by
    simp only [okJ] at h
    split at h
    · refine ⟨[], .nil, fun acc σ H Q ⟨ρ, sr, q⟩ => ?_⟩
      rw [evJ] at q
      exact q H (Stp.refl _ _ _ sr)
    · cases h
  | .cons e es, xs, Z, X, Ex, h, g => by
    simp only [okJ] at h
    split at h
    · rename_i x i p r
      simp only [Bool.and_eq_true] at h
      obtain ⟨⟨h1, h2⟩, h3⟩ := h
      have h1 := of_decide_eq_true h1
      subst h1
      obtain ⟨ts, t1, t2⟩ := sJ es r Z X Ex h3 g
      refine ⟨_, .cons (pe_fmt (pe_dat (sE e x Z X Ex h2 g))) t1, fun acc σ H Q ⟨ρ, sr, q⟩ => ?_⟩
      rw [evJ] at q
      exact ⟨ρ, sr, q.bind.imp fun d ρ1 H1 s1 q1 v rv => j_fmt t2 s1.sr rv q1⟩
    · rename_i c k p r
      simp only [Bool.and_eq_true] at h
      obtain ⟨h1, h3⟩ := h
      obtain ⟨ts, t1, t2⟩ := sJ es r Z X Ex h3 g
      split at h1
      · rename_i z y
        have h1 := of_decide_eq_true h1
        subst h1
        refine ⟨_, .cons pe_str t1, fun acc σ H Q ⟨ρ, sr, q⟩ => ?_⟩
        rw [evJ, evW] at q
        exact j_str t2 sr q
      · cases h1
    · cases h
theorem sDs : ∀ (es : Es) (xs : List Expr) (Z : Ctx) (X : Cx) (Ex : Nat → Hp → Prop), okEs Z es xs = true → Gd Z Γ fa xa Ex kk X → PA X xs (rdDs X.K X.w fa Ex (evDs Γ es))
  | .nil, xs, Z, X, Ex, h, g => by
    simp only [okEs] at h
    split at h
    · have : evDs Γ .nil = fun ρ => .ok [] ρ := by funext ρ; rw [evDs]
      rw [this]; exact pd_nil_
    · cases h
  | .cons e es, xs, Z, X, Ex, h, g => by
    simp only [okEs] at h
    split at h
    · simp only [Bool.and_eq_true] at h
      have : evDs Γ (.cons e es) = fun ρ => (dat (evW Γ e ρ)).bind fun x ρ => (evDs Γ es ρ).bind fun xs ρ => .ok (x :: xs) ρ := by funext ρ; rw [evDs]
      rw [this]
      exact pd_cons_ (pe_dat (sE e _ Z X Ex h.1.1 g)) (sDs es _ Z X Ex h.2 g) (noStar_ok h.1.2)
    · cases h
theorem sO : ∀ (es : Es) (o : Option Expr) (Z : Ctx) (X : Cx) (Ex : Nat → Hp → Prop), okO Z es o = true → Gd Z Γ fa xa Ex kk X → PO X o (rdO X.K X.w fa Ex (evO Γ es))
  | .nil, o, Z, X, Ex, h, g => by
    simp only [okO] at h
    split at h
    · have : evO Γ .nil = fun ρ => .ok none ρ := by funext ρ; rw [evO]
      rw [this]; exact po_non
    · cases h
  | .cons e es, o, Z, X, Ex, h, g => by
    simp only [okO] at h
    split at h
    · have : evO Γ (.cons e es) = fun ρ => (dat (evW Γ e ρ)).bind fun x ρ => match x with
        | .int i => .ok (some i) ρ
        | _ => .bad := by funext ρ; rw [evO] <;> rfl
      rw [this]
      exact po_som (pe_dat (sE e _ Z X Ex h g))
    · cases h
theorem sPs : ∀ (ps : Ps) (ks : List (Option Expr)) (vs : List Expr) (Z : Ctx) (X : Cx) (Ex : Nat → Hp → Prop) {pos : Pos}, okPs Z ps ks vs = true → Gd Z Γ fa xa Ex kk X → PE X (.Dict ks vs pos) (rdW X.K X.w fa Ex fun ρ => evPs Γ ps [] ρ)
  | .nil, ks, vs, Z, X, Ex, pos, h, g => by
    simp only [okPs] at h
    split at h
    · exact PE.cong rd_dsp0 fun ρ => by rw [evPs]
    · cases h
  | .cons k v ps, ks, vs, Z, X, Ex, pos, h, g => by
    simp only [okPs] at h
    rw [Bool.and_eq_true] at h
    obtain ⟨h0, h⟩ := h
    split at h
    · simp only [Bool.and_eq_true] at h
      cases ps with
      | nil => exact PE.cong (rd_dsp1 (units g) (pe_dat (sE k _ Z X Ex h.1 g)) (pe_dat (sE v _ Z X Ex h.2 g))) fun ρ => by rw [evPs] <;> simp only [evPs]
      | cons _ _ _ => cases h0
    · cases h
end
end
end FF
end
section
set_option Elab.async false
set_option linter.all false
set_option maxRecDepth 100000
set_option maxHeartbeats 4000000
/-! HE: what is checked holds: statements, defs. -/
namespace FF
open PySem PySem.Spec PyProof.Rows L2 PySem.W
section
variable {fa xa : Nat → Addr} {kk : Nat}
theorem PS.cong {X : Cx} {P : Nat → Prop} {Ex : Nat → Hp → Prop} {s : Stmt} {f f' : Sl → SO} (h : PS X s (rdS X.K X.w fa P Ex f)) (q : ∀ ρ, f' ρ = f ρ) : PS X s (rdS X.K X.w fa P Ex f') := by
  have : f' = f := funext q
  rw [this]; exact h
theorem names_env {X : Cx} {Z : Ctx} {Γ : Nat → FunD} {Ex : Nat → Hp → Prop} (g : Gd Z Γ fa xa Ex kk X) {i : Nat} {x : Str} (h : locB Z i x = true) : X.N[i]? = some x ∧ X.env.scope.names.lookup x = some .local ∧ i ∈ Z.may := by
  unfold locB at h
  rw [Bool.and_eq_true, Bool.and_eq_true] at h
  have h2 := h.2
  split at h2
  · rename_i e
    exact ⟨by rw [g.N]; exact of_decide_eq_true h.1.1, by rw [g.sc]; exact e, List.contains_iff_mem.mp h.1.2⟩
  · cases h2
theorem dup2 {x y : Str} (h : x ≠ y) : [x, y].eraseDups = [x, y] := by
  rw [List.eraseDups_cons]
  have : [y].filter (fun b => !b == x) = [y] := by simp [Ne.symm h]
  rw [this]
  rfl
theorem dup3 {x y z : Str} (h : x ≠ y) (h2 : x ≠ z) (h3 : y ≠ z) : [x, y, z].eraseDups = [x, y, z] := by
  rw [List.eraseDups_cons]
  have : [y, z].filter (fun b => !b == x) = [y, z] := by simp [Ne.symm h, Ne.symm h2]
  rw [this, dup2 h3]
theorem sw_two {env : Env} {x y : Str} {px py pt pt2 : Pos} {kt k2 : Nat} {vs : List Expr} (hk : env.scope.kind = .function) (hx : env.scope.names.lookup x = some .local) (hy : env.scope.names.lookup y = some .local) (hxy : x ≠ y) (hl : (px.line == py.line) = true) (hv : vs.length = 2) (sv : vs.all noStar = true)
    (hf : vs.all (foldedForSure 8) = false) (hc : vs.all (constantsAlone 8) = false) : swappedStores [.Tuple [.Name x px, .Name y py] kt pt] (.Tuple vs k2 pt2) env = pure (some [x, y]) := by
  have hb : env.blockKind = .function := by unfold Env.blockKind; rw [hk]; rfl
  have kx : env.kindOf x = some .local := hx
  have ky : env.kindOf y = some .local := hy
  have hl2 : py.line = px.line := (eq_of_beq hl).symm
  have d2 := dup2 hxy
  unfold swappedStores
  dsimp only
  rw [hv, hb, if_neg, if_neg]
  · simp [List.filterMap_cons, kx, ky, hl2, d2, hf, hc, Expr.pos]
  · intro h
    rw [List.any_eq_true] at h
    obtain ⟨v, hv, h⟩ := h
    have := List.all_eq_true.mp sv v hv
    cases v <;> first | (cases h; done) | (cases this; done)
  · simp
theorem sw_three {env : Env} {x y z : Str} {px py pz pt pt2 : Pos} {kt k2 : Nat} {vs : List Expr} (hk : env.scope.kind = .function) (hx : env.scope.names.lookup x = some .local) (hy : env.scope.names.lookup y = some .local) (hz : env.scope.names.lookup z = some .local) (hxy : x ≠ y) (hxz : x ≠ z) (hyz : y ≠ z) (hl : (px.line == py.line) = true) (hm : (px.line == pz.line) = true) (hv : vs.length = 3) (sv : vs.all noStar = true)
    (hf : vs.all (foldedForSure 8) = false) (hc : vs.all (constantsAlone 8) = false) : swappedStores [.Tuple [.Name x px, .Name y py, .Name z pz] kt pt] (.Tuple vs k2 pt2) env = pure (some [x, y, z]) := by
  have hb : env.blockKind = .function := by unfold Env.blockKind; rw [hk]; rfl
  have kx : env.kindOf x = some .local := hx
  have ky : env.kindOf y = some .local := hy
  have kz : env.kindOf z = some .local := hz
  have hl2 : py.line = px.line := (eq_of_beq hl).symm
  have hm2 : pz.line = px.line := (eq_of_beq hm).symm
  have d3 := dup3 hxy hxz hyz
  unfold swappedStores
  dsimp only
  rw [hv, hb, if_neg, if_neg]
  · simp [List.filterMap_cons, kx, ky, kz, hl2, hm2, d3, hf, hc, Expr.pos]
  · intro h
    rw [List.any_eq_true] at h
    obtain ⟨v, hv, h⟩ := h
    have := List.all_eq_true.mp sv v hv
    cases v <;> first | (cases h; done) | (cases this; done)
  · simp
theorem sw_no {env : Env} {ts vs : List Expr} {pt pt2 : Pos} {kt k2 : Nat} (h : (decide (ts.length ≠ vs.length) || decide (3 < ts.length) || vs.all (foldedForSure 8)) = true) : swappedStores [.Tuple ts kt pt] (.Tuple vs k2 pt2) env = pure none := by
  unfold swappedStores
  dsimp only
  simp only [Bool.or_eq_true, decide_eq_true_eq] at h
  split
  · rfl
  · rename_i h1
    split
    · rfl
    · split
      · rfl
      · rcases h with (h | h) | h
        · exfalso
          apply h1
          simp only [Bool.or_eq_true, bne_iff_ne, ne_eq]
          exact .inl (.inr fun z => h z.symm)
        · exfalso
          apply h1
          simp only [Bool.or_eq_true, Bool.not_eq_true', Bool.or_eq_false_iff, beq_eq_false_iff_ne]
          exact .inl (.inl ⟨by omega, by omega⟩)
        · rw [if_pos h]
theorem okEs_star {Z : Ctx} : ∀ {es : Es} {xs : List Expr}, okEs Z es xs = true → xs.all noStar = true
  | .nil, xs, h => by
    simp only [okEs] at h
    split at h
    · rfl
    · cases h
  | .cons e es, xs, h => by
    simp only [okEs] at h
    split at h
    · simp only [Bool.and_eq_true] at h
      rw [List.all_cons, h.1.2, okEs_star h.2]; rfl
    · cases h
variable (Γ : Nat → FunD)
theorem sWs {Z : Ctx} {Ex : Nat → Hp → Prop} {X : Cx} (g : Gd Z Γ fa xa Ex kk X) : ∀ {es : Es} {xs : List Expr}, okEs Z es xs = true → PA X xs (rdWs X.K X.w fa Ex (evWs Γ es))
  | .nil, xs, h => by
    simp only [okEs] at h
    split at h
    · have : evWs Γ .nil = fun ρ => .ok [] ρ := by funext ρ; rw [evWs]
      rw [this]; exact pw_nil_
    · cases h
  | .cons e es, xs, h => by
    simp only [okEs] at h
    split at h
    · simp only [Bool.and_eq_true] at h
      have : evWs Γ (.cons e es) = fun ρ => (evW Γ e ρ).bind fun x ρ => (evWs Γ es ρ).bind fun xs ρ => .ok (x :: xs) ρ := by funext ρ; rw [evWs]
      rw [this]
      exact pw_cons_ (sE Γ e _ Z X Ex h.1.1 g) (sWs g h.2) (noStar_ok h.1.2)
    · cases h
theorem s_raise {Z : Ctx} {Ex : Nat → Hp → Prop} {X : Cx} {P : Nat → Prop} (g : Gd Z Γ fa xa Ex kk X) {c : Nat} {y m : Str} {j : Nat} {p p2 pos pos2 : Pos} (h1 : glB Z y = true) (h2 : Z.errs[c]? = some y) :
    PS X (.Raise (some (.Call (.Name y p) [.Constant (.str m) j p2] [] pos)) none pos2) (rdS X.K X.w fa P Ex fun ρ => .ex c ρ) := by
  have e := g.errs c y h2
  refine PS.weak (L2N.ps_raise g.calm g.tk (L2N.pmk_own PySem.F.excBase_ValueError e.exc e.glo e.keep (raises_own e.sub e.ty) (gl_ok g h1).1 (gl_ok g h1).2)) fun D σ H ⟨ρ, sr, q⟩ => ?_
  exact ⟨rfl, c, rfl, q σ H (.refl sr)⟩
/-- name = a comprehension -/
theorem s_setLc {Z : Ctx} {Ex : Nat → Hp → Prop} {X : Cx} (g : Gd Z Γ fa xa Ex kk X) {i : Nat} {a : E} {e : Expr} {y : Str} {py pos : Pos} (h1 : stoB Z i y = true) (h2 : okE Z a e = true) (h3 : lcLineB Z y py e = true) (h4 : isLc a = true) :
    PS X (.Assign [.Name y py] e pos) (rdS X.K X.w fa (fun i => i ∉ Z.may) Ex fun ρ => (evW Γ a ρ).to fun w ρ => (if i < ρ.length then .ok () (ρ.set i w) else .bad : O Unit).to fun _ ρ => .nx ρ) := by
  cases a with
  | lc own t s c b =>
    simp only [okE] at h2
    split at h2
    · rename_i elt tg it ifs scope lpos
      simp only [Bool.and_eq_true] at h2
      obtain ⟨⟨⟨⟨⟨k1, k2⟩, k3⟩, k4⟩, k5⟩, k6⟩ := h2
      simp only [lcLineB, Bool.and_eq_true] at h3
      obtain ⟨⟨⟨l1, l2⟩, l3⟩, l4⟩ := h3
      have hk : X.env.scope.kind = .function := by
        rw [g.sc]
        split at l1
        · rename_i q; exact q
        · cases l1
      have hl : X.env.scope.names.lookup y = some .local := by
        rw [g.sc]
        split at l2
        · rename_i q; exact q
        · cases l2
      obtain ⟨n1, n2, n3, n4⟩ := sto_ok g h1
      obtain ⟨wi, w1, w2⟩ := lc_make (t := fun x ρ => asgT Γ t (.d x) ρ) (c := fun ρ => evCs Γ c ρ) (e := fun ρ => dat (evW Γ b ρ)) g k1 k3 fun hn => sI Γ s tg it Z X Ex hn k1 g
      refine PS.weak (ps_setLc (te := rdD X.K X.w fa NoX fun ρ => dat (evW Γ b ρ)) (tt := rdT X.K X.w fa NoX fun ρ => evCs Γ c ρ) (g := rdG X.K X.w fa (fun i => i ∉ own) NoX fun x ρ => asgT Γ t (.d x) ρ) g.calm g.nd n1 hl (sw_true hk hl l3 (by simpa using l4)) w1 (blk_ok g k2)
        (fun s H C cl fp => sG Γ t tg _ _ _ k4 (g.blk scope own s H C cl fp)) (fun s H C cl fp => sC Γ c ifs _ _ _ k5 (g.blk scope own s H C cl fp)) (fun s H C cl fp => pe_dat (sE Γ b elt _ _ _ k6 (g.blk scope own s H C cl fp))) (fold_ok k1 X.env)) fun D σ H ⟨ρ, sr, q⟩ => ?_
      unfold tAsg
      rw [own_map]
      refine w2 σ H _ ?_
      have e1 : evW Γ (.lc own t s c b) = _ := funext fun ρ => by rw [evW]
      have q' := RdS.to q
      rw [e1] at q'
      refine ⟨ρ, sr, q'.imp fun w ρ1 H1 s1 q1 v rv => ?_⟩
      by_cases hl : i < ρ1.length
      · rw [if_pos hl] at q1
        exact q1 _ _ ((StpV.of s1).put hl (fun z => z n4) rv.rw rv.nun rv.lk rv.fr)
      · rw [if_neg hl] at q1; exact q1.elim
    · cases h2
  | _ => cases h4
theorem lcCell_ok {Z : Ctx} {Ex : Nat → Hp → Prop} {X : Cx} (g : Gd Z Γ fa xa Ex kk X) {y : Str} {py : Pos} {e : Expr} {l : Nat} (h : lcCellB Z y e = true) : swapsWith e (some (.Name y py)) l X.env = pure false := by
  unfold lcCellB at h
  split at h
  · split at h
    · rename_i hs
      have hk : X.env.kindOf y = some .cell := by show X.env.scope.names.lookup y = _; rw [g.sc]; exact hs
      unfold swapsWith
      simp only [hk]
      have e1 : (some NameKind.cell == some NameKind.local) = false := by decide
      have e2 : (NameKind.cell == NameKind.local) = false := by decide
      simp [e1, e2]
    · cases h
  · cases h
mutual
theorem sS : ∀ (s : S) (x : Stmt) (Z : Ctx) (X : Cx) (Ex : Nat → Hp → Prop), okS Z s x = true → Gd Z Γ fa xa Ex kk X → PS X x (rdS X.K X.w fa (fun i => i ∉ Z.may) Ex (evS Γ s))
  | .asg t a, x, Z, X, Ex, h, g => by
    simp only [okS] at h
    split at h
    · rename_i tg e pos
      split at h
      · rename_i i y py
        simp only [Bool.and_eq_true, Bool.or_eq_true] at h
        obtain ⟨⟨h1, h2⟩, h3⟩ := h
        obtain ⟨n1, n2, n3, n4⟩ := sto_ok g h1
        refine PS.cong (f := fun ρ => (evW Γ a ρ).to fun w ρ => (if i < ρ.length then .ok () (ρ.set i w) else .bad : O Unit).to fun _ ρ => .nx ρ) ?_ fun ρ => by rw [evS]
        rcases h3 with (h3 | h3) | h3
        · exact s_set g.nd n1 n2 (sE Γ a e Z X Ex h2 g) (noSwap_ok h3) n3 fun z => z n4
        · exact s_set g.nd n1 n2 (sE Γ a e Z X Ex h2 g) (lcCell_ok Γ g h3) n3 fun z => z n4
        · exact s_setLc Γ g h1 h2 h3.1 h3.2
      · cases h
      · rename_i hn1 hn2
        simp only [Bool.and_eq_true] at h
        obtain ⟨⟨⟨⟨h1, h2⟩, h3⟩, h4⟩, h5⟩ := h
        have hsw : swappedStores [tg] e X.env = pure none := by
          cases t with
          | nm i => exact (hn1 i rfl).elim
          | sub i k =>
            simp only [okG] at h1
            split at h1
            · rfl
            · cases h1
          | tp ts =>
            simp only [okG] at h1
            split at h1
            · cases e <;> first | rfl | exact sw_no h4
            · cases h1
        have hss : swapsWithSole [tg] e pos.line X.env = pure false := noSwap_ok h3
        refine PS.cong (s_asg (sE Γ a e Z X Ex h2 g) (sG Γ t tg Z X Ex h1 g) hss hsw (by rw [noStar_asg h5]; rfl)) fun ρ => ?_
        cases t with
        | nm i => exact (hn1 i rfl).elim
        | tp ts => rw [evS]; intro i z; cases z
        | sub i k => rw [evS]; intro i z; cases z
    · cases h
  | .par is es, x, Z, X, Ex, h, g => by
    simp only [okS] at h
    split at h
    · rename_i ts kt pt vs k2 pt2 pos
      simp only [Bool.and_eq_true] at h
      obtain ⟨⟨⟨⟨h1, h2⟩, h3⟩, h4⟩, h5⟩ := h
      have h3 := of_decide_eq_true h3
      have h4 := of_decide_eq_true h4
      have hk : X.env.scope.kind = .function := by
        rw [g.sc]
        unfold funB at h2
        split at h2
        · rename_i q; exact q
        · cases h2
      split at h5
      · rename_i i j xx px yy py v1 v2
        simp only [Bool.and_eq_true, decide_eq_true_eq] at h5
        obtain ⟨⟨⟨⟨a1, a2⟩, a3⟩, a4⟩, a5⟩ := h5
        obtain ⟨b1, b2, b3⟩ := names_env g a1
        obtain ⟨c1, c2, c3⟩ := names_env g a2
        exact PS.cong (s_par2 g.calm g.nd b1 c1 a3 b2 c2 (fun z => z b3) (fun z => z c3) (sWs Γ g h1) (sw_two hk b2 c2 a4 a5 rfl (okEs_star h1) h3 h4) rfl) fun ρ => by rw [evS]
      · rename_i i j l xx px yy py zz pz v1 v2 v3
        simp only [Bool.and_eq_true, decide_eq_true_eq] at h5
        obtain ⟨⟨⟨⟨⟨⟨⟨⟨⟨⟨a1, a2⟩, a3⟩, a4⟩, a5⟩, a6⟩, a7⟩, a8⟩, a9⟩, a10⟩, a11⟩ := h5
        obtain ⟨b1, b2, b3⟩ := names_env g a1
        obtain ⟨c1, c2, c3⟩ := names_env g a2
        obtain ⟨d1, d2, d3⟩ := names_env g a3
        exact PS.cong (s_par3 g.calm g.nd b1 c1 d1 a4 a5 a6 b2 c2 d2 (fun z => z b3) (fun z => z c3) (fun z => z d3) (sWs Γ g h1) (sw_three hk b2 c2 d2 a7 a8 a9 a10 a11 rfl (okEs_star h1) h3 h4) rfl) fun ρ => by rw [evS]
      · cases h5
    · cases h
  | .ex a, x, Z, X, Ex, h, g => by
    simp only [okS] at h
    split at h
    · rw [Bool.and_eq_true] at h
      exact PS.cong (s_ex (sE Γ a _ Z X Ex h.1 g) (noSwap_ok h.2)) fun ρ => by rw [evS]
    · cases h
  | .if_ c a b, x, Z, X, Ex, h, g => by
    simp only [okS] at h
    split at h
    · rw [Bool.and_eq_true, Bool.and_eq_true] at h
      exact PS.cong (s_if (sT Γ c _ Z X Ex h.1.1 g) (sSs a _ Z X Ex h.1.2 g) (sSs b _ Z X Ex h.2 g)) fun ρ => by rw [evS]
    · cases h
  | .for_ t src body, x, Z, X, Ex, h, g => by
    simp only [okS] at h
    split at h
    · rename_i tg it b pos
      simp only [Bool.and_eq_true] at h
      obtain ⟨⟨⟨h1, h2⟩, h3⟩, h4⟩ := h
      have hg := sG Γ t tg Z X Ex h2 g
      have hb := sSs body b Z X Ex h3 g
      by_cases hl : ∃ i, src = .lk i
      · obtain ⟨i, rfl⟩ := hl
        simp only [okI] at h1
        split at h1
        · have ni : i ∉ Z.may := by simpa [lkB] using h4
          refine PS.cong (s_for_lk (nm_ok g h1) ni g.pass g.calm hg hb (fun y => rfl)) fun ρ => ?_
          rw [evS, evSrc]
        · cases h1
      · have hn : ∀ i, src ≠ .lk i := fun i z => hl ⟨i, z⟩
        refine PS.cong (s_for g.pass g.calm (sI Γ src tg it Z X Ex hn h1 g) hg hb (fold_ok h1 X.env)) fun ρ => ?_
        rw [evS]
        congr 1
        funext xs ρ1
        generalize forLoop (fun x ρ => (asgT Γ t (.d x) ρ).to fun _ ρ => evSs Γ body ρ) xs ρ1 = r
        have fr : ∀ ρ', freeS src ρ ρ' = some ρ' := fun ρ' => by
          cases src <;> first | rfl | exact absurd rfl (hn _)
        cases r <;> simp only [SO.free, fr]
    · cases h
  | .forf i fs body, x, Z, X, Ex, h, g => by
    simp only [okS] at h
    split at h
    · simp only [Bool.and_eq_true] at h
      obtain ⟨⟨⟨h1, h2⟩, h3⟩, h4⟩ := h
      obtain ⟨n1, n2, n3, n4⟩ := sto_ok g h1
      exact PS.cong (s_forf g.pass g.calm g.nd n1 n2 n3 (fun z => z n4) (of_decide_eq_true h4) (pa_fns g h2) (sSs body _ Z X Ex h3 g)) fun ρ => by rw [evS]
    · cases h
  | .whl c body, x, Z, X, Ex, h, g => by
    simp only [okS] at h
    split at h
    · rw [Bool.and_eq_true] at h
      exact PS.cong (s_while FUEL g.pass (sT Γ c _ Z X Ex h.1 g) (sSs body _ Z X Ex h.2 g)) fun ρ => by rw [evS]
    · cases h
  | .ret a, x, Z, X, Ex, h, g => by
    simp only [okS] at h
    split at h
    · exact PS.cong (s_ret (sE Γ a _ Z X Ex h g)) fun ρ => by rw [evS]
    · cases h
  | .retN, x, Z, X, Ex, h, g => by
    simp only [okS] at h
    split at h
    · exact PS.cong s_retN fun ρ => by rw [evS]
    · cases h
  | .raise c, x, Z, X, Ex, h, g => by
    simp only [okS] at h
    split at h
    · rw [Bool.and_eq_true] at h
      obtain ⟨h1, h2⟩ := h
      split at h2
      · rename_i z e
        have := of_decide_eq_true h2
        subst this
        exact PS.cong (s_raise Γ g h1 e) fun ρ => by rw [evS]
      · cases h2
    · cases h
theorem sSs : ∀ (s : Ss) (x : List Stmt) (Z : Ctx) (X : Cx) (Ex : Nat → Hp → Prop), okSs Z s x = true → Gd Z Γ fa xa Ex kk X → PSs X x (rdS X.K X.w fa (fun i => i ∉ Z.may) Ex (evSs Γ s))
  | .nil, x, Z, X, Ex, h, g => by
    simp only [okSs] at h
    split at h
    · have : evSs Γ .nil = .nx := by funext ρ; rw [evSs]
      rw [this]
      exact ss_nil
    · cases h
  | .cons s ss, x, Z, X, Ex, h, g => by
    simp only [okSs] at h
    split at h
    · rw [Bool.and_eq_true] at h
      have : evSs Γ (.cons s ss) = fun ρ => (evS Γ s ρ).seq (evSs Γ ss) := by funext ρ; rw [evSs]
      rw [this]
      exact ss_cons (sS s _ Z X Ex h.1 g) (sSs ss _ Z X Ex h.2 g)
    · cases h
end
/-! ### a def that answers a pair -/
def RdSO (K : PySem.W.Frag) (wd : World) (fa : Nat → Addr) (P : Nat → Prop) (Ex : Nat → Hp → Prop) (x : SO) (σ : L2.St) (ρ : Sl) (H : Hp) (D : Ends) : Prop :=
  match x with
  | .nx _ => False
  | .rt w ρ' => ∀ σ' H' T a u, StpV K wd fa P σ ρ H σ' ρ' H' → H' T = some (.tup [.ref a, u]) → WRS K wd fa σ ρ H σ' ρ' H' (.ref a) w → D.rt (.ref T) H'
  | .ex c ρ' => ∀ σ' H', StpV K wd fa P σ ρ H σ' ρ' H' → Ex c H'
  | .bad => False
def rdSO (K : PySem.W.Frag) (wd : World) (fa : Nat → Addr) (P : Nat → Prop) (Ex : Nat → Hp → Prop) (f : Sl → SO) : TS := fun D σ H => ∃ ρ, SR K wd fa σ ρ H ∧ RdSO K wd fa P Ex (f ρ) σ ρ H D
theorem RdSO.later {K : PySem.W.Frag} {wd : World} {P : Nat → Prop} {Ex : Nat → Hp → Prop} {σ σ1 : L2.St} {ρ ρ1 : Sl} {H H1 : Hp} {D : Ends} {x : SO} (s : StpV K wd fa P σ ρ H σ1 ρ1 H1) (h : RdSO K wd fa P Ex x σ ρ H D) : RdSO K wd fa P Ex x σ1 ρ1 H1 D := by
  cases x with
  | nx ρ' => exact h
  | rt w ρ' => exact fun σ' H' T a u t hT r => h σ' H' T a u (s.trans t) hT (r.later s.st)
  | ex c ρ' => exact fun σ' H' t => h σ' H' (s.trans t)
  | bad => exact h
theorem s_retO {Z : Ctx} {Ex : Nat → Hp → Prop} {X : Cx} {P : Nat → Prop} (g : Gd Z Γ fa xa Ex kk X) {i j : Nat} {y z : Str} {p p2 p3 pos : Pos} {k : Nat} (h1 : nmB Z i y = true) (h2 : nmB Z j z = true) :
    PSs X [.Return (some (.Tuple [.Name y p, .Name z p2] k p3)) pos] (rdSO X.K X.w fa P Ex (endO i j)) := by
  have n1 := nm_ok g h1
  have n2 := nm_ok g h2
  refine PSs.weak (pss_cons (ps_ret (L2.pe_tup (L2.pa_cons (pe_var n1.at_ n1.vis n1.nd n1.nc) (L2.pa_cons (pe_var n2.at_ n2.vis n2.nd n2.nc) L2.pa_nil rfl) rfl))) pss_nil) fun D σ H ⟨ρ, sr, q⟩ => ?_
  unfold endO at q
  split at q
  · rename_i xs y e1 e2
    obtain ⟨v, s1, r1⟩ := sr.at e1 (by intro z; cases z)
    obtain ⟨v2, s2, r2⟩ := sr.at e2 (by intro z; cases z)
    obtain ⟨a, vs, rfl, ha, rs⟩ := r1
    refine ⟨.ref a, s1, v2, s2, (by show 2 ≤ sizeLine; decide), fun T hT => ?_⟩
    have st := Stp.drop (i := i) (w := .un) sr rfl (.inl rfl)
    have st2 := Stp.new (o := .tup [.ref a, v2]) st.sr hT
    refine q σ _ T a v2 (.of (st.trans st2)) upd_same ⟨⟨a, vs, rfl, ?_, RDs.mono (Mo.new hT) _ _ rs⟩, (by intro z; cases z), rfl, fun b _ z => ?_⟩
    · rw [upd_ne (fun z => by rw [z, hT] at ha; cases ha)]; exact ha
    · cases z
      exact ⟨.inr ⟨i, _, e1, rfl, s1⟩, sr.gone ⟨_, e1, rfl, s1⟩ rfl⟩
  · exact q.elim
theorem sSsO {i j : Nat} : ∀ (s : Ss) (x : List Stmt) (Z : Ctx) (X : Cx) (Ex : Nat → Hp → Prop), okSsO Z i j s x = true → Gd Z Γ fa xa Ex kk X → PSs X x (rdSO X.K X.w fa (fun i => i ∉ Z.may) Ex (evSsO Γ i j s))
  | .nil, x, Z, X, Ex, h, g => by
    simp only [okSsO] at h
    split at h
    · rw [Bool.and_eq_true] at h
      have : evSsO Γ i j .nil = endO i j := by funext ρ; rw [evSsO]
      rw [this]
      exact s_retO Γ g h.1 h.2
    · cases h
  | .cons s ss, x, Z, X, Ex, h, g => by
    simp only [okSsO] at h
    split at h
    · rw [Bool.and_eq_true] at h
      refine PSs.weak (pss_cons (sS Γ s _ Z X Ex h.1 g) (sSsO ss _ Z X Ex h.2 g)) fun D σ H ⟨ρ, sr, q⟩ => ⟨ρ, sr, ?_⟩
      rw [evSsO] at q
      cases e : evS Γ s ρ with
      | nx ρ1 =>
        rw [e] at q
        exact fun σ1 H1 s1 => ⟨ρ1, s1.st.sr, RdSO.later s1 q⟩
      | rt w ρ1 => rw [e] at q; exact q.elim
      | ex c ρ1 => rw [e] at q; exact q
      | bad => rw [e] at q; exact q.elim
    · cases h
end
end FF
end
section
set_option Elab.async false
set_option linter.all false
set_option maxRecDepth 100000
set_option maxHeartbeats 4000000
/-! HG: a def keeps what its small syntax tells. -/
namespace FF
open PySem PySem.Spec PyProof.Rows L2 PySem.W
theorem ownOnly_ok : ∀ {by_ : List Nat} {ws : List W} {k i : Nat} {w : W}, ownOnly by_ k ws = true → ws[i]? = some w → w.hold = true → (k + i) ∈ by_
  | by_, [], k, i, w, _, e, _ => by simp at e
  | by_, v :: ws, k, 0, w, h, e, hh => by
    simp at e; subst e
    rw [ownOnly, Bool.and_eq_true, hh] at h
    simpa using h.1
  | by_, v :: ws, k, i + 1, w, h, e, hh => by
    rw [ownOnly, Bool.and_eq_true] at h
    have := ownOnly_ok (k := k + 1) (i := i) h.2 (by simpa using e) hh
    rw [show k + (i + 1) = k + 1 + i by omega]; exact this
theorem outsOf_get : ∀ {by_ : List Nat} {ws ρ : List W} {k i : Nat}, ws.length ≤ ρ.length → (outsOf by_ k ws ρ)[i]? = if i < ws.length then (if by_.contains (k + i) then ρ[i]? else ws[i]?) else none
  | by_, [], ρ, k, i, _ => by simp [outsOf]
  | by_, w :: ws, [], k, i, h => by simp at h
  | by_, w :: ws, v :: ρ, k, 0, h => by simp [outsOf]; split <;> rfl
  | by_, w :: ws, v :: ρ, k, i + 1, h => by
    rw [outsOf, List.getElem?_cons_succ, outsOf_get (by simpa using h)]
    simp only [List.length_cons, Nat.add_lt_add_iff_right, List.getElem?_cons_succ]
    rw [show k + (i + 1) = k + 1 + i by omega]
theorem outsOf_len : ∀ {by_ : List Nat} {ws ρ : List W} {k : Nat}, (outsOf by_ k ws ρ).length = ws.length
  | by_, [], ρ, k => by simp [outsOf]
  | by_, w :: ws, [], k => by rw [outsOf, List.length_cons, outsOf_len]; rfl
  | by_, w :: ws, v :: ρ, k => by rw [outsOf, List.length_cons, outsOf_len]; rfl
theorem sameOwn_ok : ∀ {ws ρ : List W} {i : Nat} {w : W}, sameOwn ws ρ = true → ws[i]? = some w → w.hold = true → ρ[i]? = some w
  | [], ρ, i, w, _, e, _ => by simp at e
  | v :: ws, [], i, w, h, _, _ => by simp [sameOwn] at h
  | v :: ws, u :: ρ, 0, w, h, e, hh => by
    simp at e; subst e
    rw [sameOwn, Bool.and_eq_true, hh] at h
    have : wEq v u = true := by simpa using h.1
    rw [wEq_eq this]; rfl
  | v :: ws, u :: ρ, i + 1, w, h, e, hh => by
    rw [sameOwn, Bool.and_eq_true] at h
    simpa using sameOwn_ok (i := i) h.2 (by simpa using e) hh
section
variable {K : PySem.W.Frag} {wd : World} {fa : Nat → Addr} {vs : List V} {ws : List W} {H : Hp} {N : List Str} {n : Nat}
theorem start_at {i : Nat} (h : i < vs.length) : (L2.start N vs)[i]? = (vs.map some)[i]? := by
  unfold L2.start
  rw [List.getElem?_append_left (by simpa using h)]
theorem start_out {i : Nat} {v : V} (h : vs.length ≤ i) : (L2.start N vs)[i]? ≠ some (some v) := by
  unfold L2.start
  rw [List.getElem?_append_right (by simpa using h)]
  intro z
  rw [List.getElem?_replicate] at z
  split at z
  · cases z
  · cases z
theorem pad_at {i : Nat} (h : i < ws.length) : (ws ++ List.replicate n W.un)[i]? = ws[i]? := List.getElem?_append_left h
theorem pad_out {i : Nat} {w : W} (h : ws.length ≤ i) (e : (ws ++ List.replicate n W.un)[i]? = some w) : w = .un := by
  rw [List.getElem?_append_right h, List.getElem?_replicate] at e
  split at e
  · cases e; rfl
  · cases e
theorem pad_ho (hl : ws.length = vs.length) {i : Nat} {a : Addr} (h : Ho (L2.start N vs) (ws ++ List.replicate n W.un) i a) : Ho (vs.map some) ws i a := by
  obtain ⟨w, e, hh, es⟩ := h
  by_cases hi : i < ws.length
  · rw [pad_at hi] at e
    rw [start_at (by omega)] at es
    exact ⟨w, e, hh, es⟩
  · have := pad_out (by omega) e
    subst this; cases hh
theorem ho_pad (hl : ws.length = vs.length) {i : Nat} {a : Addr} (h : Ho (vs.map some) ws i a) : Ho (L2.start N vs) (ws ++ List.replicate n W.un) i a := by
  obtain ⟨w, e, hh, es⟩ := h
  have hi := (List.getElem?_eq_some_iff.mp e).1
  exact ⟨w, by rw [pad_at hi]; exact e, hh, by rw [start_at (by omega)]; exact es⟩
theorem pad_ow (hl : ws.length = vs.length) {a : Addr} (h : Ow (L2.start N vs) (ws ++ List.replicate n W.un) a) : Ow (vs.map some) ws a := by
  obtain ⟨i, w, e, hh, es⟩ := h
  by_cases hi : i < ws.length
  · rw [pad_at hi] at e
    rw [start_at (by omega)] at es
    exact ⟨i, w, e, hh, es⟩
  · have := pad_out (by omega) e
    subst this; cases hh
theorem start_sr (s : SR K wd fa (vs.map some) ws H) (hn : vs.length + n = N.length) : SR K wd fa (L2.start N vs) (ws ++ List.replicate n W.un) H := by
  have hl : ws.length = vs.length := by rw [s.len, List.length_map]
  refine ⟨?_, fun i w e => ?_, fun i j a h1 h2 => s.ap i j a (pad_ho hl h1) (pad_ho hl h2), s.tab⟩
  · unfold L2.start
    simp only [List.length_append, List.length_replicate, List.length_map]
    omega
  · by_cases hi : i < ws.length
    · rw [pad_at hi] at e
      rw [start_at (by omega)]
      exact s.rw i w e
    · exact .inl (pad_out (by omega) e)
variable {by_ : List Nat} {P : Nat → Prop} {σ' : L2.St} {ρ' : Sl} {H' : Hp}
/-- a def's end, for the caller -/
theorem end_ho (hl : ws.length = vs.length) (oo : ownOnly by_ 0 ws = true) (pb : ∀ i ∈ by_, P i) (st : StpV K wd fa P (L2.start N vs) (ws ++ List.replicate n W.un) H σ' ρ' H') {i : Nat} {a : Addr} (h : Ho (vs.map some) (outsOf by_ 0 ws ρ') i a) : i ∈ by_ ∧ Ho σ' ρ' i a := by
  obtain ⟨w, e, hh, es⟩ := h
  have lr : ws.length ≤ ρ'.length := by
    have := st.st.sr.len
    rw [this, st.len]
    unfold L2.start
    simp only [List.length_append, List.length_map]
    omega
  rw [outsOf_get lr] at e
  split at e
  · rename_i hi
    rw [Nat.zero_add] at e
    by_cases m : i ∈ by_
    · rw [if_pos (List.contains_iff_mem.mpr m)] at e
      exact ⟨m, w, e, hh, by rw [st.kp i (pb i m), start_at (by omega)]; exact es⟩
    · rw [if_neg (fun z => m (List.contains_iff_mem.mp z))] at e
      have := ownOnly_ok oo e hh
      rw [Nat.zero_add] at this
      exact absurd this m
  · cases e
theorem end_stp (s : SR K wd fa (vs.map some) ws H) (hl : ws.length = vs.length) (oo : ownOnly by_ 0 ws = true) (pb : ∀ i ∈ by_, P i) (st : StpV K wd fa P (L2.start N vs) (ws ++ List.replicate n W.un) H σ' ρ' H') :
    Stp K wd fa (vs.map some) ws H (vs.map some) (outsOf by_ 0 ws ρ') H' := by
  have lr : ws.length ≤ ρ'.length := by
    have := st.st.sr.len
    rw [this, st.len]
    unfold L2.start
    simp only [List.length_append, List.length_map]
    omega
  refine ⟨⟨by rw [outsOf_len]; exact s.len, fun i w e => ?_, fun i j a h1 h2 => ?_, st.st.sr.tab⟩, st.st.mo, fun b o q m nn => st.st.ko b o q m fun z => nn (pad_ow hl z), fun b h => ?_, fun b ⟨i, h⟩ => ?_, st.st.dom⟩
  · rw [outsOf_get lr] at e
    split at e
    · rename_i hi
      rw [Nat.zero_add] at e
      by_cases m : i ∈ by_
      · rw [if_pos (List.contains_iff_mem.mpr m)] at e
        have := st.st.sr.rw i w e
        rw [st.kp i (pb i m), start_at (by omega)] at this
        exact this
      · rw [if_neg (fun z => m (List.contains_iff_mem.mp z))] at e
        rcases s.rw i w e with h | ⟨v, h1, h2⟩
        · exact .inl h
        · refine .inr ⟨v, h1, h2.mono st.st.mo fun a o _ hh _ => ?_⟩
          have := ownOnly_ok oo e hh
          rw [Nat.zero_add] at this
          exact absurd this m
    · cases e
  · exact st.st.sr.ap i j a (end_ho hl oo pb st h1).2 (end_ho hl oo pb st h2).2
  · obtain ⟨i, w, e, ow, es⟩ := h
    obtain ⟨m, w', e', hh', es'⟩ := end_ho hl oo pb st ⟨w, e, W.hold_of_own ow, es⟩
    rw [outsOf_get lr] at e
    split at e
    · rw [Nat.zero_add, if_pos (List.contains_iff_mem.mpr m)] at e
      rw [e] at e'
      cases e'
      rcases st.st.ow b ⟨i, w, e, ow, es'⟩ with z | z
      · exact .inl (pad_ow hl z)
      · exact .inr z
    · cases e
  · obtain ⟨m, h'⟩ := end_ho hl oo pb st h
    rcases st.st.ho b ⟨i, h'⟩ with ⟨j, z⟩ | z
    · exact .inl ⟨j, pad_ho hl z⟩
    · exact .inr z
theorem end_same (s : SR K wd fa (vs.map some) ws H) (hl : ws.length = vs.length) (oo : ownOnly by_ 0 ws = true) (pb : ∀ i ∈ by_, P i) (so : sameOwn ws ρ' = true) (st : StpV K wd fa P (L2.start N vs) (ws ++ List.replicate n W.un) H σ' ρ' H') :
    Stp K wd fa (vs.map some) ws H (vs.map some) ws H' := by
  refine ⟨⟨s.len, fun i w e => ?_, s.ap, st.st.sr.tab⟩, st.st.mo, fun b o q m nn => st.st.ko b o q m fun z => nn (pad_ow hl z), fun b h => .inl h, fun b h => .inl h, st.st.dom⟩
  rcases s.rw i w e with h | ⟨v, h1, h2⟩
  · exact .inl h
  · refine .inr ⟨v, h1, ?_⟩
    by_cases hh : w.hold = true
    · have e' := sameOwn_ok so e hh
      have m := ownOnly_ok oo e hh
      rw [Nat.zero_add] at m
      have hi := (List.getElem?_eq_some_iff.mp e).1
      rcases st.st.sr.rw i w e' with h | ⟨u, g1, g2⟩
      · subst h; cases hh
      · rw [st.kp i (pb i m), start_at (by omega), h1] at g1
        cases g1
        exact g2
    · exact h2.mono st.st.mo fun a o _ hh' _ => absurd hh' hh
end

/-! ### defs -/
section
variable {P : Program} {w : World} {K : PySem.W.Frag} {mg : Str → Option Value} {base : Heap} {fa xa : Nat → Addr} {k : Nat}
/-- what a module gives -/
structure Md (K : PySem.W.Frag) (mg : Str → Option Value) (xa : Nat → Addr) (bl : List Str) (gl : List (Str × D)) (errs : List Str) (w : World) : Prop where
  bl : ∀ x ∈ bl, mg x = none
  gl : ∀ (n : Nat) (x : Str) (d : D), gl[n]? = some (x, d) → ∃ u v, mg x = some u ∧ RelV v u ∧ ∀ H, RD K w H v d
  errs : ∀ (c : Nat) (x : Str), errs[c]? = some x → ErrP K mg x (xa c)
def mayOf (f : Fn) : List Nat := (List.range f.slots).filter fun i => !f.by_.contains i
/-- a def's context -/
def ctxOf (N : List Str) (sc : Scope) (fns : List (Str × Nat)) (gl : List (Str × D)) (errs bl : List Str) (f : Fn) : Ctx := ⟨N, sc, fns, gl, errs, bl, mayOf f, true, none⟩
/-- what the body's reading asks, from the def's promise -/
theorem fn_body {N : List Str} {Γ : Nat → FunD} {f : Fn} {vs : List V} {H : Hp} {Q : VK} {E : XK} (hs : f.slots = N.length) (hle : f.n ≤ f.slots) (h : spF K w fa xa f.n (evFn Γ f) vs H Q E) :
    rdS K w fa (fun i => i ∉ mayOf f) (fun c H => E (.ref (xa c)) none H) (evSs Γ f.body) { nx := fun _ H' => Q .non H', rt := Q } (L2.start N vs) H := by
  obtain ⟨hvl, ws, sr, h⟩ := h
  have hl : ws.length = vs.length := by rw [sr.len, List.length_map]
  unfold evFn at h
  by_cases hc : ws.length = f.n ∧ ownOnly f.by_ 0 ws = true
  case neg => rw [if_neg hc] at h; exact h.elim
  rw [if_pos hc] at h
  obtain ⟨_, oo⟩ := hc
  refine ⟨ws ++ List.replicate (f.slots - f.n) W.un, start_sr sr (by omega), ?_⟩
  have pb : ∀ i ∈ f.by_, i ∉ mayOf f := fun i m z => by
    have z : i ∈ (List.range f.slots).filter fun i => !f.by_.contains i := z
    rw [List.mem_filter] at z
    have := z.2
    simp [m] at this
  cases e : evSs Γ f.body (ws ++ List.replicate (f.slots - f.n) W.un) with
  | bad => rw [e] at h; exact h.elim
  | nx ρ' =>
    rw [e] at h
    intro σ' H' st
    exact h .non H' (end_stp sr hl oo pb st) ⟨.non, (by intro z; cases z), rfl, fun a z => nomatch z⟩
  | rt u ρ' =>
    rw [e] at h
    intro σ' H' v st r
    exact h v H' (end_stp sr hl oo pb st) ⟨r.rw, r.nun, r.lk, fun a h1 h2 => ⟨(r.fr a h1 h2).1.elim .inl fun z => .inr (pad_ow hl z), fun i z => (r.fr a h1 h2).2 i (end_ho hl oo pb st z).2⟩⟩
  | ex c ρ' =>
    rw [e] at h
    dsimp only at h
    by_cases so : sameOwn ws ρ' = true
    · rw [if_pos so] at h
      exact fun σ' H' st => h H' (end_same sr hl oo pb so st)
    · rw [if_neg so] at h; exact h.elim
theorem fn_gd {N ps bl errs : List Str} {gl : List (Str × D)} {fns : List (Str × Nat)} {qual : Str} {scope : Scope} {Γ : Nat → FunD} {f : Fn} {g : Addr} {lam : Option (List Str)} (M : Md K mg xa bl gl errs w) {j : Nat}
    (hf : ∀ (i : Nat) (y : Str) (n : Nat), fns[i]? = some (y, n) → FnP P w K mg base fa xa j y n i (Γ i)) (S : FnScope N ps scope) {cdv : Value} {A : Around} {outer : List Env} {s : Shared} {H : Hp} {E : XK} (hr : Room j (A.deeper (envOfC qual scope s.heap.objs.size g cdv)))
    (hlam : ∀ ks, lam = some ks → ∃ k2 TM FE, LamF Γ fa xa fns ks k2 TM FE (cxOf (L2N.CX P w) P w K mg base N qual scope g cdv A outer s H E)) :
    Gd { ctxOf N scope fns gl errs bl f with lam := lam } Γ fa xa (fun c H => E (.ref (xa c)) none H) k (cxOf (L2N.CX P w) P w K mg base N qual scope g cdv A outer s H E) :=
  ⟨rfl, S.nd, rfl, rfl, fun _ _ => rfl, passes_of (K := fun e s'' => L2N.CX P w outer H s E e s'') rfl, ⟨j, hr, hf⟩, M.bl, M.gl, M.errs, (L2N.takes_of rfl rfl rfl rfl).imp fun cls d σ H ⟨e0, c, e, q⟩ => by subst e0; subst e; exact q, hlam⟩
theorem fn_ok1 {N ps bl errs : List Str} {gl : List (Str × D)} {fns : List (Str × Nat)} {x qual : Str} {params : Arguments} {body : List Stmt} {scope : Scope} {Γ : Nat → FunD} {f : Fn} {id : Nat} {fd : FuncData} (M : Md K mg xa bl gl errs w)
    (hf : ∀ (i : Nat) (y : Str) (n : Nat), fns[i]? = some (y, n) → FnP P w K mg base fa xa k y n i (Γ i)) (F : L2.FunD K x qual params body scope [] [] (fa id) fd) (S : FnScope N ps scope)
    (hn : f.n = ps.length) (hs : f.slots = N.length) (hle : f.n ≤ f.slots) (hby : f.by_.all (fun i => decide (i < f.slots)) = true) (ok : okSs (ctxOf N scope fns gl errs bl f) f.body body = true) :
    FnOk P w K mg base (L2N.CX P w) (k + 1) (fa id) fd ps (spF K w fa xa f.n (evFn Γ f)) := by
  refine F.ok S (fun vs H Q E h => by rw [h.1]; exact hn) fun cdv A outer s H vs Q E hr h => ?_
  exact ⟨_, sSs (kk := k) Γ f.body body _ _ _ ok (fn_gd (lam := none) M hf S hr (fun ks h => (nomatch h))), fn_body hs hle h⟩
theorem fn_go {N ps bl errs : List Str} {gl : List (Str × D)} {fns : List (Str × Nat)} {x qual : Str} {params : Arguments} {body : List Stmt} {scope : Scope} {Γ : Nat → FunD} {f : Fn} {id : Nat} {fd : FuncData} (M : Md K mg xa bl gl errs w)
    (hf : ∀ (i : Nat) (y : Str) (n : Nat), fns[i]? = some (y, n) → FnP P w K mg base fa xa k y n i (Γ i)) (F : L2.FunD K x qual params body scope [] [] (fa id) fd) (S : FnScope N ps scope)
    (hb : ∀ (kV doc pm : Value) (an : Option Addr) (cdv ct : Value) (us : List Value), us.length = ps.length → bindArgs (PySem.W.fnOf x qual params body scope .none kV doc pm an cdv ct) ⟨us, []⟩ = pure (ps.zip us))
    (hn : f.n = ps.length) (hs : f.slots = N.length) (hle : f.n ≤ f.slots) (hby : f.by_.all (fun i => decide (i < f.slots)) = true) (ok : okSs (ctxOf N scope fns gl errs bl f) f.body body = true) (g : mg x = some (.ref (fa id))) (few : f.n < 1000) :
    FnP P w K mg base fa xa (k + 1) x f.n id (evFn Γ f) :=
  ⟨⟨fd, ps, by rw [spX_lt few]; exact fn_ok1 M hf F S hn hs hle hby ok, F.bindsN hb⟩, F.kp, g⟩
/-! ### a def that answers a pair -/
theorem fn_bodyO {N : List Str} {Γ : Nat → FunD} {f : Fn} {i j : Nat} {vs : List V} {H : Hp} {Q : VK} {E : XK} (hs : f.slots = N.length) (hle : f.n ≤ f.slots) (h : spO K w fa xa f.n (evFnO Γ i j f) vs H Q E) :
    rdSO K w fa (fun i => i ∉ mayOf f) (fun c H => E (.ref (xa c)) none H) (evSsO Γ i j f.body) { nx := fun _ H' => Q .non H', rt := Q } (L2.start N vs) H := by
  obtain ⟨hvl, ws, sr, h⟩ := h
  have hl : ws.length = vs.length := by rw [sr.len, List.length_map]
  unfold evFnO at h
  by_cases hc : ws.length = f.n ∧ ownOnly f.by_ 0 ws = true
  case neg => rw [if_neg hc] at h; exact h.elim
  rw [if_pos hc] at h
  obtain ⟨_, oo⟩ := hc
  refine ⟨ws ++ List.replicate (f.slots - f.n) W.un, start_sr sr (by omega), ?_⟩
  have pb : ∀ i ∈ f.by_, i ∉ mayOf f := fun i m z => by
    have z : i ∈ (List.range f.slots).filter fun i => !f.by_.contains i := z
    rw [List.mem_filter] at z
    have := z.2
    simp [m] at this
  cases e : evSsO Γ i j f.body (ws ++ List.replicate (f.slots - f.n) W.un) with
  | bad => rw [e] at h; exact h.elim
  | nx ρ' => rw [e] at h; exact h.elim
  | rt u ρ' =>
    rw [e] at h
    intro σ' H' T a b st hT r
    exact h T a b H' (end_stp sr hl oo pb st) hT ⟨r.rw, r.nun, r.lk, fun a h1 h2 => ⟨(r.fr a h1 h2).1.elim .inl fun z => .inr (pad_ow hl z), fun i z => (r.fr a h1 h2).2 i (end_ho hl oo pb st z).2⟩⟩
  | ex c ρ' =>
    rw [e] at h
    dsimp only at h
    by_cases so : sameOwn ws ρ' = true
    · rw [if_pos so] at h
      exact fun σ' H' st => h H' (end_same sr hl oo pb so st)
    · rw [if_neg so] at h; exact h.elim
theorem fn_goO {N ps bl errs : List Str} {gl : List (Str × D)} {fns : List (Str × Nat)} {x qual : Str} {params : Arguments} {body : List Stmt} {scope : Scope} {Γ : Nat → FunD} {f : Fn} {i j : Nat} {id : Nat} {fd : FuncData} (M : Md K mg xa bl gl errs w)
    (hf : ∀ (i : Nat) (y : Str) (n : Nat), fns[i]? = some (y, n) → FnP P w K mg base fa xa k y n i (Γ i)) (F : L2.FunD K x qual params body scope [] [] (fa id) fd) (S : FnScope N ps scope)
    (hb : ∀ (kV doc pm : Value) (an : Option Addr) (cdv ct : Value) (us : List Value), us.length = ps.length → bindArgs (PySem.W.fnOf x qual params body scope .none kV doc pm an cdv ct) ⟨us, []⟩ = pure (ps.zip us))
    (hn : f.n = ps.length) (hs : f.slots = N.length) (hle : f.n ≤ f.slots) (hby : f.by_.all (fun i => decide (i < f.slots)) = true) (ok : okSsO (ctxOf N scope fns gl errs bl f) i j f.body body = true) (g : mg x = some (.ref (fa id))) :
    FnP P w K mg base fa xa (k + 1) x (f.n + 1000) id (evFnO Γ i j f) := by
  refine ⟨⟨fd, ps, ?_, F.bindsN hb⟩, F.kp, g⟩
  rw [spX_o]
  refine F.ok S (fun vs H Q E h => by rw [h.1]; exact hn) fun cdv A outer s H vs Q E hr h => ?_
  exact ⟨_, sSsO (kk := k) Γ f.body body _ _ _ ok (fn_gd (lam := none) M hf S hr (fun ks h => (nomatch h))), fn_bodyO hs hle h⟩
end
end FF
end
section
set_option Elab.async false
set_option linter.all false
set_option maxRecDepth 100000
set_option maxHeartbeats 4000000
/-! HH: the head's facts; the law's call. -/
namespace FF
open PySem PySem.Spec PyProof.Rows L2 PySem.W
mutual
/-- the value reads as the data, in the kept part -/
def relD (K : PySem.W.Frag) : D → Value → Bool
  | .none, u => match u with
    | .none => true
    | _ => false
  | .bool b, u => match u with
    | .bool c => b == c
    | _ => false
  | .int i, u => match u with
    | .int j _ => decide (i = j)
    | _ => false
  | .str x, u => match u with
    | .str y _ => decide (x = y)
    | _ => false
  | .tuple ds, u => match u with
    | .ref a => (match K.lookup a with
      | some ⟨.type c, _, .seq its _, _⟩ => decide (c = "tuple") && decide (its.size ≤ sizeLine) && relDs K ds its.toList
      | _ => false)
    | _ => false
  | _, _ => false
def relDs (K : PySem.W.Frag) : List D → List Value → Bool
  | [], us => match us with
    | [] => true
    | _ => false
  | d :: ds, us => match us with
    | u :: us => relD K d u && relDs K ds us
    | _ => false
end
mutual
theorem relD_ok {K : PySem.W.Frag} : ∀ (d : D) (u : Value), relD K d u = true → ∃ v, RelV v u ∧ ∀ (w : World) (H : Hp), RD K w H v d
  | .none, u, h => by
    simp only [relD] at h
    split at h
    · exact ⟨.non, rfl, fun _ _ => .non⟩
    · cases h
  | .bool b, u, h => by
    simp only [relD] at h
    split at h
    · have := eq_of_beq h; subst this; exact ⟨.bl _, rfl, fun _ _ => .bl _⟩
    · cases h
  | .int i, u, h => by
    simp only [relD] at h
    split at h
    · have := of_decide_eq_true h; subst this; exact ⟨.int _, ⟨_, rfl⟩, fun _ _ => .int _⟩
    · cases h
  | .str x, u, h => by
    simp only [relD] at h
    split at h
    · have := of_decide_eq_true h; subst this; exact ⟨.str _, ⟨_, rfl⟩, fun _ _ => .str _⟩
    · cases h
  | .tuple ds, u, h => by
    simp only [relD] at h
    split at h
    · rename_i a
      split at h
      · rename_i c od its n sl e
        rw [Bool.and_eq_true, Bool.and_eq_true] at h
        obtain ⟨vs, r, q⟩ := relDs_ok ds its.toList h.2
        have hc := of_decide_eq_true h.1.1
        subst hc
        exact ⟨.ref a, rfl, fun w H => .tup (.inr ⟨_, its, n, e, rfl, rfl, of_decide_eq_true h.1.2, r⟩) (q w H)⟩
      · cases h
    · cases h
  | .list _, u, h => by simp [relD] at h
  | .dict _, u, h => by simp [relD] at h
theorem relDs_ok {K : PySem.W.Frag} : ∀ (ds : List D) (us : List Value), relDs K ds us = true → ∃ vs, Vals vs us ∧ ∀ (w : World) (H : Hp), RDs K w H vs ds
  | [], us, h => by
    simp only [relDs] at h
    split at h
    · exact ⟨[], .nil, fun _ _ => .nil⟩
    · cases h
  | d :: ds, us, h => by
    simp only [relDs] at h
    split at h
    · rw [Bool.and_eq_true] at h
      obtain ⟨v, h1, h2⟩ := relD_ok d _ h.1
      obtain ⟨vs, h3, h4⟩ := relDs_ok ds _ h.2
      exact ⟨v :: vs, .cons h1 h3, fun w H => .cons (h2 w H) (h4 w H)⟩
    · cases h
end
def glOk (K : PySem.W.Frag) (p : Str × D) : Bool := match PySem.W.nsIn K mainGlobals p.1 with
  | some (some u) => relD K p.2 u
  | _ => false
def obsF (fs : List He.Fa) (gl : List (Str × D)) (fn : List He.DefD) (K : PySem.W.Frag) : He.AlD := ((fs.all fun f => f.ok K) && (fn.all fun d => d.ok K) && gl.all (glOk K), fn.map fun d => He.fnW K d.at_)
def SaysF (fs : List He.Fa) (gl : List (Str × D)) (fn : List He.DefD) (K : PySem.W.Frag) : Prop := obsF fs gl fn K = He.valD fn
def obsFG (n : Nat) (fs : List He.Fa) (gl : List (Str × D)) (fn : List He.DefD) (g : Addr → Option Obj) : He.AlD := obsF fs gl fn (He.frG g (He.asD g n))
def hookF (n : Nat) (fs : List He.Fa) (gl : List (Str × D)) (fn : List He.DefD) : PySem.W.Hook where
  α := He.AlD
  obs := fun s => obsFG n fs gl fn s.heap.get?
  val := fun _ => He.valD fn
  says := fun _ h => ∃ K : PySem.W.Frag, K.In h ∧ SaysF fs gl fn K
  of := fun _ _ e => ⟨_, He.frG_in, e⟩
  keeps := fun _ _ _ ⟨K, hK, c⟩ k => ⟨K, PySem.W.Frag.In.keeps hK k, c⟩
theorem obsFG_eq {n : Nat} {fs : List He.Fa} {gl : List (Str × D)} {fn : List He.DefD} {g : Addr → Option Obj} {s : Shared} (h : ∀ a, g a = s.heap.get? a) : obsFG n fs gl fn g = (hookF n fs gl fn).obs s := by
  have e : g = s.heap.get? := funext h
  rw [e] <;> rfl
section
variable {fs : List He.Fa} {gl : List (Str × D)} {fn : List He.DefD} {K : PySem.W.Frag}
theorem SaysF.all (c : SaysF fs gl fn K) : (fs.all fun f => f.ok K) = true ∧ (fn.all fun d => d.ok K) = true ∧ gl.all (glOk K) = true := by
  have h : ((fs.all fun f => f.ok K) && (fn.all fun d => d.ok K) && gl.all (glOk K)) = true := congrArg (fun z : He.AlD => z.1) c
  rw [Bool.and_eq_true, Bool.and_eq_true] at h
  exact ⟨h.1.1, h.1.2, h.2⟩
theorem SaysF.fact (c : SaysF fs gl fn K) {f : He.Fa} (h : f ∈ fs) : f.ok K = true := List.all_eq_true.mp c.all.1 f h
theorem SaysF.def_ (c : SaysF fs gl fn K) (i : Nat) {d : He.DefD} (h : fn[i]? = some d) : ∃ fd, L2.FunD K d.name d.qual d.params d.body d.scope (d.dvs K) (d.kws K) (He.fAd K d.at_) fd := by
  have e : fn.map (fun d => He.fnW K d.at_) = fn.map He.DefD.val := congrArg (fun z : He.AlD => z.2) c
  have e2 : (fn.map fun d => He.fnW K d.at_)[i]? = (fn.map He.DefD.val)[i]? := by rw [e]
  rw [List.getElem?_map, List.getElem?_map, h] at e2
  exact He.DefD.funD (Option.some.inj e2) (List.all_eq_true.mp c.all.2.1 d (List.mem_of_getElem? h))
theorem SaysF.con {h : Heap} {mg : Str → Option Value} (c : SaysF fs gl fn K) (X : K.In h) (G : h.Ns mainGlobals mg) {x : Str} {d : D} (m : (x, d) ∈ gl) : ∃ u v, mg x = some u ∧ RelV v u ∧ ∀ (w : World) (H : Hp), RD K w H v d := by
  have := List.all_eq_true.mp c.all.2.2 _ m
  unfold glOk at this
  split at this
  · rename_i u e
    obtain ⟨v, h1, h2⟩ := relD_ok d u this
    exact ⟨u, v, PySem.W.mg_of X G e, h1, h2⟩
  · cases this
/-- what a module's head gives -/
theorem SaysF.md {h : Heap} {mg : Str → Option Value} (c : SaysF fs gl fn K) (X : K.In h) (G : h.Ns mainGlobals mg) {bl errs : List Str} (w : World) (hb : ∀ x ∈ bl, He.Fa.free x ∈ fs) (he : ∀ x ∈ errs, He.Fa.exc x ∈ fs ∧ He.Fa.glo x ∈ fs) :
    Md K mg (fun i => He.ga K (errs.getD i Str.empty)) bl gl errs w := by
  refine ⟨fun x m => He.free_ok X G (c.fact (hb x m)), fun n x d e => ?_, fun i x e => ?_⟩
  · obtain ⟨u, v, h1, h2, h3⟩ := c.con X G (List.mem_of_getElem? e)
    exact ⟨u, v, h1, h2, h3 w⟩
  · have e2 : errs.getD i Str.empty = x := by rw [List.getD_eq_getElem?_getD, e]; rfl
    obtain ⟨m1, m2⟩ := he x (List.mem_of_getElem? e)
    obtain ⟨q1, q2, q3, q4⟩ := He.exc_ok (c.fact m1)
    show ErrP K mg x (He.ga K (errs.getD i Str.empty))
    rw [e2]
    exact ⟨He.glo_ok X G (c.fact m2), q1, q2, q3, q4⟩
end

/-- a module's facts -/
def mkFs (names bl errs : List Str) : List He.Fa := names.map .glo ++ (bl.map .free ++ (errs.map .exc ++ errs.map .glo))
theorem fs_glo {names bl errs : List Str} {x : Str} (h : x ∈ names) : He.Fa.glo x ∈ mkFs names bl errs := List.mem_append_left _ (List.mem_map.mpr ⟨x, h, rfl⟩)
theorem fs_md {names bl errs : List Str} {gl : List (Str × D)} {fn : List He.DefD} {K : PySem.W.Frag} {h : Heap} {mg : Str → Option Value} (c : SaysF (mkFs names bl errs) gl fn K) (X : K.In h) (G : h.Ns mainGlobals mg) (w : World) : Md K mg (fun i => He.ga K (errs.getD i Str.empty)) bl gl errs w :=
  c.md X G w (fun x m => List.mem_append_right _ (List.mem_append_left _ (List.mem_map.mpr ⟨x, m, rfl⟩)))
    fun x m => ⟨List.mem_append_right _ (List.mem_append_right _ (List.mem_append_left _ (List.mem_map.mpr ⟨x, m, rfl⟩))), List.mem_append_right _ (List.mem_append_right _ (List.mem_append_right _ (List.mem_map.mpr ⟨x, m, rfl⟩)))⟩
/-! ### the defs one after another -/
section
variable {P : Program} {w : World} {K : PySem.W.Frag} {mg : Str → Option Value} {base : Heap} {xa : Nat → Addr} {tb : Addr} {fns : List (Str × Nat)} {gl : List (Str × D)} {bl errs : List Str} {k : Nat} {L : List FunD}
def getL (L : List FunD) (i : Nat) : FunD := L.getD i fun _ => .bad
def faOf (K : PySem.W.Frag) (tb : Addr) (fns : List (Str × Nat)) (i : Nat) : Addr := if i = 999999 then tb else He.ga K (fns.getD i (Str.empty, 0)).1
structure FnsOk (P : Program) (w : World) (K : PySem.W.Frag) (mg : Str → Option Value) (base : Heap) (xa : Nat → Addr) (tb : Addr) (fns : List (Str × Nat)) (k : Nat) (L : List FunD) : Prop where
  len : L.length = k
  fn : ∀ (i : Nat) (y : Str) (n : Nat), (fns.take k)[i]? = some (y, n) → FnP P w K mg base (faOf K tb fns) xa k y n i (getL L i)
theorem FnsOk.zero : FnsOk P w K mg base xa tb fns 0 [] := ⟨rfl, fun i y n e => by simp at e⟩
theorem FnsOk.push {x : Str} {n : Nat} {F : FunD} (h : FnsOk P w K mg base xa tb fns k L) (e : fns[k]? = some (x, n)) (hF : FnP P w K mg base (faOf K tb fns) xa (k + 1) x n k F) : FnsOk P w K mg base xa tb fns (k + 1) (L ++ [F]) := by
  refine ⟨by rw [List.length_append, h.len]; rfl, fun i y m q => ?_⟩
  rw [List.getElem?_take] at q
  split at q
  · rename_i hi
    by_cases hk : i < k
    · have := h.fn i y m (by rw [List.getElem?_take, if_pos hk]; exact q)
      have e2 : getL (L ++ [F]) i = getL L i := by
        unfold getL
        rw [List.getD_eq_getElem?_getD, List.getD_eq_getElem?_getD, List.getElem?_append_left (by rw [h.len]; exact hk)]
      rw [e2]
      exact this.mono (Nat.le_succ k)
    · have : i = k := by omega
      subst this
      rw [e] at q
      cases q
      have e2 : getL (L ++ [F]) i = F := by
        unfold getL
        rw [List.getD_eq_getElem?_getD, List.getElem?_append_right (by rw [h.len]; exact Nat.le_refl _), h.len, Nat.sub_self]
        rfl
      rw [e2]
      exact hF
  · cases q
theorem FnsOk.step {N ps : List Str} {x qual : Str} {params : Arguments} {body : List Stmt} {scope : Scope} {f : Fn} {fd : FuncData} (h : FnsOk P w K mg base xa tb fns k L) (M : Md K mg xa bl gl errs w) (e : fns[k]? = some (x, f.n))
    (F : L2.FunD K x qual params body scope [] [] (He.ga K x) fd) (S : FnScope N ps scope)
    (hb : ∀ (kV doc pm : Value) (an : Option Addr) (cdv ct : Value) (us : List Value), us.length = ps.length → bindArgs (PySem.W.fnOf x qual params body scope .none kV doc pm an cdv ct) ⟨us, []⟩ = pure (ps.zip us))
    (fit : (decide (f.n = ps.length) && decide (f.slots = N.length) && decide (f.n ≤ f.slots) && f.by_.all (fun i => decide (i < f.slots)) && decide (f.n < 1000)) = true) (ok : okSs (ctxOf N scope (fns.take k) gl errs bl f) f.body body = true) (g : mg x = some (.ref (He.ga K x))) (hk : k < 999999 := by decide) :
    FnsOk P w K mg base xa tb fns (k + 1) (L ++ [evFn (getL L) f]) := by
  have ex : faOf K tb fns k = He.ga K x := by
    unfold faOf
    rw [if_neg (by omega), List.getD_eq_getElem?_getD, e]
    rfl
  rw [Bool.and_eq_true, Bool.and_eq_true, Bool.and_eq_true, Bool.and_eq_true] at fit
  refine h.push e (fn_go M h.fn (id := k) (by rw [ex]; exact F) S hb (of_decide_eq_true fit.1.1.1.1) (of_decide_eq_true fit.1.1.1.2) (of_decide_eq_true fit.1.1.2) fit.1.2 ok (by rw [ex]; exact g) (of_decide_eq_true fit.2))
theorem FnsOk.stepO {N ps : List Str} {x qual : Str} {params : Arguments} {body : List Stmt} {scope : Scope} {f : Fn} {i j n : Nat} {fd : FuncData} (h : FnsOk P w K mg base xa tb fns k L) (M : Md K mg xa bl gl errs w) (e : fns[k]? = some (x, n))
    (F : L2.FunD K x qual params body scope [] [] (He.ga K x) fd) (S : FnScope N ps scope)
    (hb : ∀ (kV doc pm : Value) (an : Option Addr) (cdv ct : Value) (us : List Value), us.length = ps.length → bindArgs (PySem.W.fnOf x qual params body scope .none kV doc pm an cdv ct) ⟨us, []⟩ = pure (ps.zip us))
    (fit : (decide (f.n = ps.length) && decide (f.slots = N.length) && decide (f.n ≤ f.slots) && f.by_.all (fun i => decide (i < f.slots)) && decide (n = f.n + 1000)) = true) (ok : okSsO (ctxOf N scope (fns.take k) gl errs bl f) i j f.body body = true) (g : mg x = some (.ref (He.ga K x))) (hk : k < 999999 := by decide) :
    FnsOk P w K mg base xa tb fns (k + 1) (L ++ [evFnO (getL L) i j f]) := by
  have ex : faOf K tb fns k = He.ga K x := by
    unfold faOf
    rw [if_neg (by omega), List.getD_eq_getElem?_getD, e]
    rfl
  rw [Bool.and_eq_true, Bool.and_eq_true, Bool.and_eq_true, Bool.and_eq_true] at fit
  have en := of_decide_eq_true fit.2
  subst en
  exact h.push e (fn_goO M h.fn (id := k) (by rw [ex]; exact F) S hb (of_decide_eq_true fit.1.1.1.1) (of_decide_eq_true fit.1.1.1.2) (of_decide_eq_true fit.1.1.2) fit.1.2 ok (by rw [ex]; exact g))
theorem FnsOk.last {N ps : List Str} {x qual : Str} {params : Arguments} {body : List Stmt} {scope : Scope} {f : Fn} {fd : FuncData} (h : FnsOk P w K mg base xa tb fns k L) (M : Md K mg xa bl gl errs w) (e : fns[k]? = some (x, f.n))
    (F : L2.FunD K x qual params body scope [] [] (He.ga K x) fd) (S : FnScope N ps scope)
    (fit : (decide (f.n = ps.length) && decide (f.slots = N.length) && decide (f.n ≤ f.slots) && f.by_.all (fun i => decide (i < f.slots))) = true) (ok : okSs (ctxOf N scope (fns.take k) gl errs bl f) f.body body = true) (hk : k < 999999 := by decide) :
    FnOk P w K mg base (L2N.CX P w) (k + 1) (He.ga K x) fd ps (spF K w (faOf K tb fns) xa f.n (evFn (getL L) f)) := by
  have ex : faOf K tb fns k = He.ga K x := by
    unfold faOf
    rw [if_neg (by omega), List.getD_eq_getElem?_getD, e]
    rfl
  rw [Bool.and_eq_true, Bool.and_eq_true, Bool.and_eq_true] at fit
  have := fn_ok1 M h.fn (id := k) (fd := fd) (by rw [ex]; exact F) S (of_decide_eq_true fit.1.1.1) (of_decide_eq_true fit.1.1.2) (of_decide_eq_true fit.1.2) fit.2 ok
  rw [ex] at this
  exact this
end

/-! ### the law's call -/
def scriptD (ns : List Int) : D := .list (ns.map .int)
theorem RDs.of_ints {K : PySem.W.Frag} {w : World} {H : Hp} : ∀ ns : List Int, RDs K w H (ns.map V.int) (ns.map .int)
  | [] => .nil
  | n :: ns => .cons (.int n) (RDs.of_ints ns)
theorem walk_F {l : PySem.W.OpenLaw} {n k : Nat} {q : Program} {loose : List Str} {XP : (Str → Option Value) → Heap → Prop} {YP : World → Heap → Prop} {d : DefRec} {x : Str} (hn : l.most = some n) (hz : n ≤ sizeLine) (hd : d.params.defaults = []) (room : Room k callerA)
    (F : ∀ (w : World) (mg : Str → Option Value) (a : Addr) (h : Heap), YP w h → h.Ns mainGlobals mg → mg d.name = some (.ref a) → ∃ (K : PySem.W.Frag) (fd : FuncData) (fa xa : Nat → Addr) (Φ : FunD), K.In h ∧ (∀ (s : Shared) (u : Value), BindsTo s fd ⟨[u], []⟩ [(x, u)]) ∧
      (∀ base : Heap, K.In base → base.Ns mainGlobals mg → FnOk l.prog w K mg base (L2N.CX l.prog w) k a fd [x] (spF K w fa xa 1 Φ)) ∧ fa 999999 = 0 ∧ ∀ ns : List Int, ns.length ≤ n → ∃ o, Φ [.d (scriptD ns)] = .ok (.d (.bool true)) o) :
    PySem.W.WalkO q loose XP YP l.row.toRowW d [] (fun f vs => PySem.call f vs) := by
  refine Att.attach_call hn hd fun w s0 s1 mg mb a o pm cd doc b vs ns G Y _ _ _ hm hobj hi hl hg => ?_
  obtain ⟨K, fd, fa, xa, Φ, KX, hb, hF, ft, true_⟩ := F w mg a _ Y G.T.g hm
  refine law_call KX G.T.g G.T.b G.T.builtins G.T.nolimit hg hobj hi (Nat.le_trans hl hz) room hF hb (fun H hO hS => ?_) fun H e s' z => ?_
  · obtain ⟨oo, eo⟩ := true_ ns hl
    have fz : FzL K H b (ns.map V.int) := by
      rcases hS with (h | h) | ⟨ob, its, m, h1, h2, h3, h4, h5, h6⟩
      · rcases hO b with z | ⟨_, _, z⟩
        · rw [h] at z; cases z
        · rw [h] at z; cases z
      · exact .inl h
      · have e := KX b ob h1
        rw [hobj] at e
        cases e
        cases h4
        exact .inr ⟨vs, _, h1, by simpa using h6, by rw [List.length_map]; exact Nat.le_trans hl hz⟩
    refine ⟨rfl, [.d (scriptD ns)], ⟨rfl, fun i w' e => ?_, fun i j c h1 _ => ?_, fun n => absurd ft n⟩, ?_⟩
    · cases i with
      | zero => simp at e; subst e; exact .inr ⟨.ref b, rfl, .lst fz (RDs.of_ints ns)⟩
      | succ i => simp at e
    · obtain ⟨w', e, hh, _⟩ := h1
      cases i with
      | zero => simp at e; subst e; cases hh
      | succ i => simp at e
    · rw [eo]
      intro v H' _ r
      have r := r.rw
      cases r
      rfl
  · obtain ⟨_, _, _, _, _, _, _, _, _, _, _, _, z⟩ := z
    exact z
end FF
end
section
set_option Elab.async false
set_option linter.all false
set_option maxRecDepth 100000
set_option autoImplicit true
set_option relaxedAutoImplicit true
/-! QA: unfolding of the meaning, for plain laws. -/
namespace FF
open PySem PySem.Spec PyProof.Rows L2 PySem.W
@[simp] theorem bind_ok {α β : Type} (a : α) (ρ : Sl) (f : α → Sl → O β) : (O.ok a ρ).bind f = f a ρ := rfl
@[simp] theorem bind_ex {α β : Type} (c : Nat) (ρ : Sl) (f : α → Sl → O β) : (O.ex c ρ : O α).bind f = .ex c ρ := rfl
@[simp] theorem to_ok {α : Type} (a : α) (ρ : Sl) (f : α → Sl → SO) : (O.ok a ρ).to f = f a ρ := rfl
@[simp] theorem to_ex {α : Type} (c : Nat) (ρ : Sl) (f : α → Sl → SO) : (O.ex c ρ : O α).to f = .ex c ρ := rfl
@[simp] theorem seq_nx (ρ : Sl) (f : Sl → SO) : (SO.nx ρ).seq f = f ρ := rfl
@[simp] theorem seq_rt (w : W) (ρ : Sl) (f : Sl → SO) : (SO.rt w ρ).seq f = .rt w ρ := rfl
@[simp] theorem seq_ex (c : Nat) (ρ : Sl) (f : Sl → SO) : (SO.ex c ρ).seq f = .ex c ρ := rfl
@[simp] theorem dat_d (x : D) (ρ : Sl) : dat (.ok (.d x) ρ) = .ok x ρ := rfl
@[simp] theorem dat_ol (x : List D) (ρ : Sl) : dat (.ok (.ol x) ρ) = .ok (.list x) ρ := rfl
@[simp] theorem dat_od (x : List (D × D)) (ρ : Sl) : dat (.ok (.od x) ρ) = .ok (.dict x) ρ := rfl
@[simp] theorem dat_ex (c : Nat) (ρ : Sl) : dat (.ex c ρ) = .ex c ρ := rfl
@[simp] theorem okW_some (w : W) (ρ : Sl) : okW (some w) ρ = .ok w ρ := rfl
@[simp] theorem okD_some (w : D) (ρ : Sl) : okD (some w) ρ = .ok (.d w) ρ := rfl
@[simp] theorem get_v (x : D) (ρ : Sl) (k : D → O W) : (A.v x).get ρ k = k x := rfl
@[simp] theorem at_v (x : D) (ρ : Sl) : (A.v x).at ρ = some x := rfl
@[simp] theorem opnd_var (i : Nat) (r : O W) (ρ : Sl) : opnd (.var i) r ρ = pkVar i ρ := rfl
section
variable (Γ : Nat → FunD)
@[simp] theorem evW_k  : evW Γ (.k x) ρ = .ok (.d x) ρ := by rfl
@[simp] theorem evW_g  : evW Γ (.g u_ x) ρ = .ok (.d x) ρ := by rfl
@[simp] theorem evW_fnk  : evW Γ (.fnk f) ρ = .ok (.fn f) ρ := by rfl
@[simp] theorem evW_var  : evW Γ (.var i) ρ = rdVar i ρ := by rfl
@[simp] theorem evW_mv  : evW Γ (.mv i) ρ = mvVar i ρ := by rfl
@[simp] theorem evW_tup  : evW Γ (.tup es) ρ = (evDs Γ es ρ).bind fun xs ρ => if xs.length ≤ sizeLine then .ok (.d (.tuple xs)) ρ else .bad := by rfl
@[simp] theorem evW_lst  : evW Γ (.lst es) ρ = (evDs Γ es ρ).bind fun xs ρ => if xs.length ≤ sizeLine then .ok (.ol xs) ρ else .bad := by rfl
@[simp] theorem evW_dsp  : evW Γ (.dsp ps) ρ = evPs Γ ps [] ρ := by rfl
@[simp] theorem evW_neg  : evW Γ (.neg a) ρ = (opnd a (evW Γ a ρ) ρ).bind fun a ρ => a.get ρ fun x => okW (match x with
    | .int i => some (.d (.int (-i)))
    | _ => none) ρ := by rfl
@[simp] theorem evW_not  : evW Γ (.not a) ρ = (dat (evW Γ a ρ)).bind fun x ρ => match x with
    | .bool t => .ok (.d (.bool (!t))) ρ
    | _ => .bad := by rfl
@[simp] theorem evW_bin  : evW Γ (.bin o a b) ρ = (opnd a (evW Γ a ρ) ρ).bind fun a ρ => (opnd b (evW Γ b ρ) ρ).bind fun b ρ => a.get ρ fun x => b.get ρ fun y => okW (binW o x y) ρ := by rfl
@[simp] theorem evW_cmp  : evW Γ (.cmp o a b) ρ = (opnd a (evW Γ a ρ) ρ).bind fun a ρ => (opnd b (evW Γ b ρ) ρ).bind fun b ρ => a.get ρ fun x => b.get ρ fun y => okW ((cmpD o x y).map fun b => .d (.bool b)) ρ := by rfl
@[simp] theorem evW_chain  : evW Γ (.chain o p a b c) ρ = (opnd a (evW Γ a ρ) ρ).bind fun a ρ => (opnd b (evW Γ b ρ) ρ).bind fun b ρ => a.get ρ fun x => b.get ρ fun y => match cmpD o x y with
    | some true => (opnd c (evW Γ c ρ) ρ).bind fun c ρ => b.get ρ fun y => c.get ρ fun z => okD ((cmpD p y z).map .bool) ρ
    | some false => .ok (.d (.bool false)) ρ
    | none => .bad := by rfl
@[simp] theorem evW_and  : evW Γ (.and a b) ρ = (dat (evW Γ a ρ)).bind fun x ρ => match x with
    | .bool true => evW Γ b ρ
    | .bool false => .ok (.d (.bool false)) ρ
    | _ => .bad := by rfl
@[simp] theorem evW_or  : evW Γ (.or a b) ρ = (dat (evW Γ a ρ)).bind fun x ρ => match x with
    | .bool true => .ok (.d (.bool true)) ρ
    | .bool false => evW Γ b ρ
    | _ => .bad := by rfl
@[simp] theorem evW_one  : evW Γ (.one a) ρ = evW Γ a ρ := by rfl
@[simp] theorem evW_ife  : evW Γ (.ife c a b) ρ = (evT Γ c ρ).bind fun t ρ => if t then evW Γ a ρ else evW Γ b ρ := by rfl
@[simp] theorem evW_idx  : evW Γ (.idx a i) ρ = (opnd a (evW Γ a ρ) ρ).bind fun a ρ => (opnd i (evW Γ i ρ) ρ).bind fun b ρ => a.get ρ fun x => b.get ρ fun y => okW ((idxD x y).map .d) ρ := by rfl
@[simp] theorem evW_slc  : evW Γ (.slc a l0 hi) ρ = (opnd a (evW Γ a ρ) ρ).bind fun a ρ => (evO Γ l0 ρ).bind fun l ρ => (evO Γ hi ρ).bind fun h ρ => a.get ρ fun x => okW (slcW x l h) ρ := by rfl
@[simp] theorem evW_rev  : evW Γ (.rev a) ρ = (opnd a (evW Γ a ρ) ρ).bind fun a ρ => a.get ρ fun x => okW (revW x) ρ := by rfl
@[simp] theorem evW_call  : evW Γ (.call f es) ρ = (evAs Γ es ρ).bind fun as ρ => doCall (Γ f) as ρ := by rfl
@[simp] theorem evW_callv {fs : List Nat} : evW Γ (.callv i fs es) ρ = match ρ[i]? with
    | some (.fn f) => if fs.contains f = true then (evAs Γ es ρ).bind fun as ρ => doCall (Γ f) as ρ else .bad
    | _ => .bad := by rfl
@[simp] theorem evW_bi  : evW Γ (.bi b es) ρ = (evAs Γ es ρ).bind fun as ρ => match ats ρ as with
    | some xs => okW (biW b xs) ρ
    | none => .bad := by rfl
@[simp] theorem evW_isi  : evW Γ (.isi t a) ρ = (opnd a (evW Γ a ρ) ρ).bind fun a ρ => a.get ρ fun x => okW (isiW t x) ρ := by rfl
@[simp] theorem evW_mt  : evW Γ (.mt m a es) ρ = (opnd a (evW Γ a ρ) ρ).bind fun a ρ => match a with
    | .v (.str z) => (evAs Γ es ρ).bind fun as ρ => (match ats ρ as with
      | some xs => okW (mtW m (.str z) xs) ρ
      | none => .bad)
    | _ => .bad := by rfl
@[simp] theorem evW_mto  : evW Γ (.mto m i es) ρ = match ρ[i]? with
    | some (.ol _) => (evAs Γ es ρ).bind fun as ρ => if (slotsOf as).contains i then .bad else (match ρ[i]?, ats ρ as with
      | some w, some xs => (match mtOwn m w xs with
        | some (w', r) => .ok r (ρ.set i w')
        | none => .bad)
      | _, _ => .bad)
    | _ => .bad := by rfl
@[simp] theorem evW_upd  : evW Γ (.upd i e) ρ = match ρ[i]? with
    | some (.od _) => (dat (evW Γ e ρ)).bind fun y ρ => (match ρ[i]?, y with
      | some (.od kvs), .dict ls => (match putAll kvs ls with
        | some r => .ok (.d .none) (ρ.set i (.od r))
        | none => .bad)
      | _, _ => .bad)
    | _ => .bad := by rfl
@[simp] theorem evW_app  : evW Γ (.app i e) ρ = match ρ[i]? with
    | some (.ol _) => (dat (evW Γ e ρ)).bind fun y ρ => (match ρ[i]? with
      | some (.ol xs) => if xs.length < sizeLine then .ok (.d .none) (ρ.set i (.ol (xs ++ [y]))) else .bad
      | _ => .bad)
    | _ => .bad := by rfl
@[simp] theorem evW_sdap  : evW Γ (.sdap i k e) ρ = (dat (evW Γ k ρ)).bind fun x ρ => (dat (evW Γ e ρ)).bind fun y ρ => match ρ[i]? with
    | some (.od kvs) => if dictOk kvs x then (match dGet kvs x with
      | some (.list xs) => .ok (.d .none) (ρ.set i (.od (dPut kvs x (.list (xs ++ [y])))))
      | none => .ok (.d .none) (ρ.set i (.od (dPut kvs x (.list [y]))))
      | _ => .bad) else .bad
    | _ => .bad := by rfl
@[simp] theorem evW_fstr  : evW Γ (.fstr es) ρ = (evJ Γ es Str.empty ρ).bind fun z ρ => .ok (.d (.str z)) ρ := by rfl
@[simp] theorem evJ_nil {acc : Str} : evJ Γ .nil acc ρ = .ok acc ρ := by rfl
theorem evJ_cons {acc : Str} : evJ Γ (.cons e es) acc ρ = (dat (evW Γ e ρ)).bind fun x ρ => match fmtOf x with
    | some y => if (acc ++ y).length ≤ 1000 then evJ Γ es (acc ++ y) ρ else .bad
    | none => .bad := by rfl
@[simp] theorem evW_lsi  : evW Γ (.lsi a) ρ = (opnd a (evW Γ a ρ) ρ).bind fun a ρ => a.get ρ fun x => match x with
    | .dict kvs => .ok (.ol (kvs.map fun kv => .tuple [kv.1, kv.2])) ρ
    | _ => .bad := by rfl
@[simp] theorem evW_lsv  : evW Γ (.lsv a) ρ = (opnd a (evW Γ a ρ) ρ).bind fun a ρ => a.get ρ fun x => match x with
    | .dict kvs => .ok (.ol (kvs.map (·.2))) ρ
    | _ => .bad := by rfl
@[simp] theorem evW_mxv  : evW Γ (.mxv a) ρ = (opnd a (evW Γ a ρ) ρ).bind fun a ρ => a.get ρ fun x => match x with
    | .dict kvs => okW (biW .max [.list (kvs.map (·.2))]) ρ
    | _ => .bad := by rfl
@[simp] theorem evW_lsz  : evW Γ (.lsz a b) ρ = (opnd a (evW Γ a ρ) ρ).bind fun a ρ => (opnd b (evW Γ b ρ) ρ).bind fun b ρ => a.get ρ fun x => b.get ρ fun y => match seqOf x, seqOf y with
    | some xs, some ys => .ok (.ol (List.zipWith (fun x y => .tuple [x, y]) xs ys)) ρ
    | _, _ => .bad := by rfl
@[simp] theorem evT_and  : evT Γ (.and a b) ρ = (evT Γ a ρ).bind fun t ρ => if t then evT Γ b ρ else .ok false ρ := by rfl
@[simp] theorem evT_or  : evT Γ (.or a b) ρ = (evT Γ a ρ).bind fun t ρ => if t then .ok true ρ else evT Γ b ρ := by rfl
@[simp] theorem evT_one  : evT Γ (.one a) ρ = evT Γ a ρ := by rfl
@[simp] theorem evT_not  : evT Γ (.not a) ρ = (evT Γ a ρ).bind fun t ρ => .ok (!t) ρ := by rfl
@[simp] theorem evT_ife  : evT Γ (.ife c a b) ρ = (evT Γ c ρ).bind fun t ρ => if t then evT Γ a ρ else evT Γ b ρ := by rfl
@[simp] theorem evT_var  : evT Γ (.var i) ρ = (pkVar i ρ).bind fun a ρ => match a.at ρ with
    | some x => truM x ρ
    | none => .bad := by rfl
@[simp] theorem evT_k  : evT Γ (.k x) ρ = truM x ρ := by rfl
@[simp] theorem evT_g  : evT Γ (.g u_ x) ρ = truM x ρ := by rfl
@[simp] theorem evT_cmp  : evT Γ (.cmp o a b) ρ = (opnd a (evW Γ a ρ) ρ).bind fun a ρ => (opnd b (evW Γ b ρ) ρ).bind fun b ρ => match a.at ρ, b.at ρ with
    | some x, some y => (match cmpD o x y with
      | some t => .ok t ρ
      | none => .bad)
    | _, _ => .bad := by rfl
@[simp] theorem evT_idx  : evT Γ (.idx a i) ρ = ((opnd a (evW Γ a ρ) ρ).bind fun a ρ => (opnd i (evW Γ i ρ) ρ).bind fun b ρ => a.get ρ fun x => b.get ρ fun y => okW ((idxD x y).map .d) ρ).bind fun w ρ => match w.data with
    | some x => truM x ρ
    | none => .bad := by rfl
@[simp] theorem evT_chain  : evT Γ (.chain o p a b c) ρ = (opnd a (evW Γ a ρ) ρ).bind fun a ρ => (opnd b (evW Γ b ρ) ρ).bind fun b ρ => match a.at ρ, b.at ρ with
    | some x, some y => (match cmpD o x y with
      | some true => (opnd c (evW Γ c ρ) ρ).bind fun c ρ => (match b.at ρ, c.at ρ with
        | some y, some z => (match cmpD p y z with
          | some t => .ok t ρ
          | none => .bad)
        | _, _ => .bad)
      | some false => .ok false ρ
      | none => .bad)
    | _, _ => .bad := by rfl
@[simp] theorem evT_call  : evT Γ (.call f es) ρ = ((evAs Γ es ρ).bind fun as ρ => doCall (Γ f) as ρ).bind fun w ρ => match w.data with
    | some x => truM x ρ
    | none => .bad := by rfl
@[simp] theorem evT_bi  : evT Γ (.bi b es) ρ = ((evAs Γ es ρ).bind fun as ρ => match ats ρ as with
    | some xs => okW (biW b xs) ρ
    | none => .bad).bind fun w ρ => match w.data with
    | some x => truM x ρ
    | none => .bad := by rfl
@[simp] theorem evT_isi  : evT Γ (.isi t a) ρ = ((opnd a (evW Γ a ρ) ρ).bind fun a ρ => a.get ρ fun x => okW (isiW t x) ρ).bind fun w ρ => match w.data with
    | some x => truM x ρ
    | none => .bad := by rfl
@[simp] theorem evDs_nil  : evDs Γ .nil ρ = .ok [] ρ := by rfl
@[simp] theorem evDs_cons  : evDs Γ (.cons e es) ρ = (dat (evW Γ e ρ)).bind fun x ρ => (evDs Γ es ρ).bind fun xs ρ => .ok (x :: xs) ρ := by rfl
@[simp] theorem evAs_nil  : evAs Γ .nil ρ = .ok [] ρ := by rfl
@[simp] theorem evAs_cons  : evAs Γ (.cons e es) ρ = (opnd e (evW Γ e ρ) ρ).bind fun x ρ => (evAs Γ es ρ).bind fun xs ρ => .ok (x :: xs) ρ := by rfl
@[simp] theorem evO_nil  : evO Γ .nil ρ = .ok none ρ := by rfl
@[simp] theorem evO_cons  : evO Γ (.cons e u_) ρ = (dat (evW Γ e ρ)).bind fun x ρ => match x with
    | .int i => .ok (some i) ρ
    | _ => .bad := by rfl
@[simp] theorem evPs_nil  : evPs Γ .nil acc ρ = .ok (.od acc) ρ := by rfl
@[simp] theorem evPs_cons  : evPs Γ (.cons k v ps) acc ρ = (dat (evW Γ k ρ)).bind fun x ρ => (dat (evW Γ v ρ)).bind fun y ρ => if dictOk acc x then evPs Γ ps (dPut acc x y) ρ else .bad := by rfl
@[simp] theorem evCs_nil  : evCs Γ .nil ρ = .ok true ρ := by rfl
@[simp] theorem evCs_cons  : evCs Γ (.cons c u_) ρ = evT Γ c ρ := by rfl
@[simp] theorem evSrc_it  : evSrc Γ (.it a) ρ = (dat (evW Γ a ρ)).bind fun x ρ => match itemsOf x with
    | some xs => .ok xs ρ
    | none => .bad := by rfl
@[simp] theorem evSrc_lk  : evSrc Γ (.lk i) ρ = lockW i ρ := by rfl
@[simp] theorem evSrc_r1  : evSrc Γ (.r1 a) ρ = (dat (evW Γ a ρ)).bind fun x ρ => match x with
    | .int n => if rangeOk 0 n then .ok (rangeD 0 n) ρ else .bad
    | _ => .bad := by rfl
@[simp] theorem evSrc_r2  : evSrc Γ (.r2 a b) ρ = (dat (evW Γ a ρ)).bind fun x ρ => (dat (evW Γ b ρ)).bind fun y ρ => match x, y with
    | .int m, .int n => if rangeOk m n then .ok (rangeD m n) ρ else .bad
    | _, _ => .bad := by rfl
@[simp] theorem evSrc_zip  : evSrc Γ (.zip a b) ρ = (dat (evW Γ a ρ)).bind fun x ρ => (dat (evW Γ b ρ)).bind fun y ρ => match x, y with
    | .list xs, .list ys => .ok (List.zipWith (fun x y => .tuple [x, y]) xs ys) ρ
    | .tuple xs, .tuple ys => .ok (List.zipWith (fun x y => .tuple [x, y]) xs ys) ρ
    | _, _ => .bad := by rfl
@[simp] theorem evSrc_enum  : evSrc Γ (.enum a) ρ = (dat (evW Γ a ρ)).bind fun x ρ => match x with
    | .list xs => .ok (enumD 0 xs) ρ
    | .tuple xs => .ok (enumD 0 xs) ρ
    | _ => .bad := by rfl
@[simp] theorem evSrc_enumz  : evSrc Γ (.enumz a b) ρ = (dat (evW Γ a ρ)).bind fun x ρ => (dat (evW Γ b ρ)).bind fun y ρ => match x, y with
    | .list xs, .tuple ys => .ok (enumD 0 (List.zipWith (fun x y => .tuple [x, y]) xs ys)) ρ
    | _, _ => .bad := by rfl
@[simp] theorem evSrc_items  : evSrc Γ (.items a) ρ = (dat (evW Γ a ρ)).bind fun x ρ => match x with
    | .dict kvs => .ok (kvs.map fun kv => .tuple [kv.1, kv.2]) ρ
    | _ => .bad := by rfl
@[simp] theorem evSrc_vals  : evSrc Γ (.vals a) ρ = (dat (evW Γ a ρ)).bind fun x ρ => match x with
    | .dict kvs => .ok (kvs.map (·.2)) ρ
    | _ => .bad := by rfl
@[simp] theorem asgT_nm  : asgT Γ (.nm i) w ρ = if i < ρ.length then .ok () (ρ.set i w) else .bad := by rfl
@[simp] theorem asgT_tp  : asgT Γ (.tp ts) w ρ = match w with
    | .d (.tuple xs) => if xs.length = tsLen ts then asgTs Γ ts xs ρ else .bad
    | .d (.list xs) => if xs.length = tsLen ts then asgTs Γ ts xs ρ else .bad
    | _ => .bad := by rfl
@[simp] theorem asgT_sub  : asgT Γ (.sub i e) w ρ = match w with
    | .d x => if hasObj ρ i = true then (opnd e (evW Γ e ρ) ρ).bind fun b ρ => match b.at ρ with
      | some k => (match ρ[i]? with
        | some (.ol xs) => (match k with
          | .int j => if 0 ≤ j ∧ j < xs.length then .ok () (ρ.set i (.ol (xs.set j.toNat x))) else .bad
          | _ => .bad)
        | some (.od kvs) => if dictOk kvs k then .ok () (ρ.set i (.od (dPut kvs k x))) else .bad
        | _ => .bad)
      | none => .bad
      else .bad
    | _ => .bad := by rfl
@[simp] theorem evWs_nil  : evWs Γ .nil ρ = .ok [] ρ := by rfl
@[simp] theorem evWs_cons  : evWs Γ (.cons e es) ρ = (evW Γ e ρ).bind fun w ρ => (evWs Γ es ρ).bind fun ws ρ => .ok (w :: ws) ρ := by rfl
@[simp] theorem evSs_nil  : evSs Γ .nil ρ = .nx ρ := by rfl
@[simp] theorem evSs_cons  : evSs Γ (.cons s ss) ρ = (evS Γ s ρ).seq fun ρ => evSs Γ ss ρ := by rfl
@[simp] theorem evS_par  : evS Γ (.par is es) ρ = (evWs Γ es ρ).to fun ws ρ => if ws.length = is.length ∧ (is.all fun i => decide (i < ρ.length)) = true then .nx (setAll (is.zip ws) ρ) else .bad := by rfl
@[simp] theorem evS_ex  : evS Γ (.ex e) ρ = (evW Γ e ρ).to fun _ ρ => .nx ρ := by rfl
@[simp] theorem evS_if_  : evS Γ (.if_ c a b) ρ = (evT Γ c ρ).to fun t ρ => if t then evSs Γ a ρ else evSs Γ b ρ := by rfl
@[simp] theorem evS_ret  : evS Γ (.ret e) ρ = (evW Γ e ρ).to fun w ρ => .rt w ρ := by rfl
@[simp] theorem evS_retN  : evS Γ .retN ρ = .rt (.d .none) ρ := by rfl
@[simp] theorem evS_raise  : evS Γ (.raise c) ρ = .ex c ρ := by rfl

/-- loops kept closed -/
def lcDo (own : List Nat) (t : T) (c : Es) (e : E) : List D → List D → Sl → O (List D) :=
  lcLoop own (lcTurn (fun x ρ => asgT Γ t (.d x) ρ) (fun ρ => evCs Γ c ρ) fun ρ => dat (evW Γ e ρ))
def forDo (t : T) (body : Ss) : List D → Sl → SO := forLoop (fun x ρ => (asgT Γ t (.d x) ρ).to fun _ ρ => evSs Γ body ρ)
def whlDo (c : E) (body : Ss) : Nat → Sl → SO := whlLoop (fun ρ => evT Γ c ρ) (fun ρ => evSs Γ body ρ)
@[simp] theorem evW_lc : evW Γ (.lc own t s c e) ρ₀ = (evSrc Γ s ρ₀).bind fun xs ρ =>
      match lcDo Γ own t c e xs [] (wipeW ρ own) with
      | .ok ys ρ' => (match freeS s ρ₀ (backW ρ ρ' own) with
        | some ρ'' => .ok (.ol ys) ρ''
        | none => .bad)
      | _ => .bad := by rfl
@[simp] theorem evS_for : evS Γ (.for_ t s body) ρ₀ = (evSrc Γ s ρ₀).to fun xs ρ => (forDo Γ t body xs ρ).free s ρ₀ := by rfl
@[simp] theorem evS_whl : evS Γ (.whl c body) ρ = whlDo Γ c body FUEL ρ := by rfl
@[simp] theorem evS_asgN : evS Γ (.asg (.nm i) e) ρ = (evW Γ e ρ).to fun w ρ => (if i < ρ.length then .ok () (ρ.set i w) else .bad : O Unit).to fun _ ρ => .nx ρ := by rfl
@[simp] theorem evS_asgT : evS Γ (.asg (.tp ts) e) ρ = (dat (evW Γ e ρ)).to fun x ρ => (asgT Γ (.tp ts) (.d x) ρ).to fun _ ρ => .nx ρ := by rfl
@[simp] theorem evS_asgS : evS Γ (.asg (.sub i k) e) ρ = (dat (evW Γ e ρ)).to fun x ρ => (asgT Γ (.sub i k) (.d x) ρ).to fun _ ρ => .nx ρ := by rfl
@[simp] theorem asgTs_nil : asgTs Γ .nil [] ρ = .ok () ρ := by rfl
@[simp] theorem asgTs_cons : asgTs Γ (.cons t ts) (x :: xs) ρ = (asgT Γ t (.d x) ρ).bind fun _ ρ => asgTs Γ ts xs ρ := by rfl
theorem forDo_nil : forDo Γ t body [] ρ = .nx ρ := rfl
theorem forDo_cons : forDo Γ t body (x :: xs) ρ = ((asgT Γ t (.d x) ρ).to fun _ ρ => evSs Γ body ρ).seq fun ρ => forDo Γ t body xs ρ := rfl
theorem whlDo_succ : whlDo Γ c body (n + 1) ρ = (evT Γ c ρ).to fun t ρ => if t then (evSs Γ body ρ).seq fun ρ => whlDo Γ c body n ρ else .nx ρ := rfl
theorem lcDo_nil : lcDo Γ own t c e [] acc ρ = .ok acc ρ := rfl
/-- a comprehension whose turns give a plain function of the item -/
theorem lcDo_map {f : D → Option D} {ρ : Sl} {xs : List D} (h : ∀ x ∈ xs, ∃ ρ', lcTurn (fun x ρ => asgT Γ t (.d x) ρ) (fun ρ => evCs Γ c ρ) (fun ρ => dat (evW Γ e ρ)) x ρ = .ok (f x) ρ' ∧ wipeW ρ' own = ρ) :
    ∀ acc : List D, acc.length + xs.length ≤ sizeLine → lcDo Γ own t c e xs acc ρ = .ok (acc ++ xs.filterMap f) ρ := by
  induction xs with
  | nil => intro acc _; simp [lcDo_nil]
  | cons x xs ih =>
    intro acc hl
    obtain ⟨ρ', e1, e2⟩ := h x (.head _)
    have ih := ih (fun y hy => h y (.tail _ hy))
    simp only [List.length_cons] at hl
    unfold lcDo lcLoop
    rw [e1]
    cases hf : f x with
    | none =>
      simp only [e2, List.filterMap_cons, hf]
      exact ih acc (by omega)
    | some y =>
      have : acc.length < sizeLine := by omega
      simp only [e2, List.filterMap_cons, hf, this, if_true]
      have := ih (acc ++ [y]) (by simp; omega)
      simp only [List.append_assoc, List.cons_append, List.nil_append] at this
      exact this
end
def opndD (r : O W) : O A := match dat r with
  | .ok x ρ => .ok (.v x) ρ
  | .ex c ρ => .ex c ρ
  | .bad => .bad
@[simp] theorem opndD_d (x : D) (ρ : Sl) : opndD (.ok (.d x) ρ) = .ok (.v x) ρ := rfl
@[simp] theorem opndD_ol (x : List D) (ρ : Sl) : opndD (.ok (.ol x) ρ) = .ok (.v (.list x)) ρ := rfl
@[simp] theorem opndD_ex (c : Nat) (ρ : Sl) : opndD (.ex c ρ) = .ex c ρ := rfl
@[simp] theorem at_s (i : Nat) (ρ : Sl) : (A.s i).at ρ = (ρ[i]?).bind W.data := rfl
@[simp] theorem argW_v (x : D) (ρ : Sl) : argW ρ (.v x) = some (.d x) := rfl
@[simp] theorem argW_s (i : Nat) (ρ : Sl) : argW ρ (.s i) = ρ[i]? := rfl
@[simp] theorem pkVar_d (h : ρ[i]? = some (.d x)) : pkVar i ρ = .ok (.v x) ρ := by simp [pkVar, h]
@[simp] theorem pkVar_ol (h : ρ[i]? = some (.ol x)) : pkVar i ρ = .ok (.s i) ρ := by simp [pkVar, h]
@[simp] theorem pkVar_od (h : ρ[i]? = some (.od x)) : pkVar i ρ = .ok (.s i) ρ := by simp [pkVar, h]
@[simp] theorem rdVar_d (h : ρ[i]? = some (.d x)) : rdVar i ρ = .ok (.d x) ρ := by simp [rdVar, h]
@[simp] theorem rdVar_ol (h : ρ[i]? = some (.ol x)) : rdVar i ρ = .ok (.d (.list x)) (ρ.set i (.d (.list x))) := by simp [rdVar, h]
@[simp] theorem mvVar_d (h : ρ[i]? = some (.d x)) : mvVar i ρ = .ok (.d x) ρ := by simp [mvVar, h]
@[simp] theorem mvVar_ol (h : ρ[i]? = some (.ol x)) : mvVar i ρ = .ok (.ol x) (ρ.set i .un) := by simp [mvVar, h]
@[simp] theorem mvVar_od (h : ρ[i]? = some (.od x)) : mvVar i ρ = .ok (.od x) (ρ.set i .un) := by simp [mvVar, h]
@[simp] theorem opnd_k : opnd (.k x) r ρ = opndD r := rfl
@[simp] theorem opnd_g : opnd (.g n x) r ρ = opndD r := rfl
@[simp] theorem opnd_mv : opnd (.mv i) r ρ = opndD r := rfl
@[simp] theorem opnd_tup : opnd (.tup es) r ρ = opndD r := rfl
@[simp] theorem opnd_lst : opnd (.lst es) r ρ = opndD r := rfl
@[simp] theorem opnd_dsp : opnd (.dsp ps) r ρ = opndD r := rfl
@[simp] theorem opnd_neg : opnd (.neg a) r ρ = opndD r := rfl
@[simp] theorem opnd_not : opnd (.not a) r ρ = opndD r := rfl
@[simp] theorem opnd_bin : opnd (.bin o a b) r ρ = opndD r := rfl
@[simp] theorem opnd_cmp : opnd (.cmp o a b) r ρ = opndD r := rfl
@[simp] theorem opnd_chain : opnd (.chain o p a b c) r ρ = opndD r := rfl
@[simp] theorem opnd_and : opnd (.and a b) r ρ = opndD r := rfl
@[simp] theorem opnd_or : opnd (.or a b) r ρ = opndD r := rfl
@[simp] theorem opnd_one : opnd (.one a) r ρ = opndD r := rfl
@[simp] theorem opnd_ife : opnd (.ife c a b) r ρ = opndD r := rfl
@[simp] theorem opnd_idx : opnd (.idx a j) r ρ = opndD r := rfl
@[simp] theorem opnd_slc : opnd (.slc a l0 h0) r ρ = opndD r := rfl
@[simp] theorem opnd_rev : opnd (.rev a) r ρ = opndD r := rfl
@[simp] theorem opnd_call : opnd (.call f es) r ρ = opndD r := rfl
@[simp] theorem opnd_callv {fs : List Nat} : opnd (.callv i fs es) r ρ = opndD r := rfl
@[simp] theorem opnd_bi : opnd (.bi bb es) r ρ = opndD r := rfl
@[simp] theorem opnd_isi : opnd (.isi ty a) r ρ = opndD r := rfl
@[simp] theorem opnd_fstr : opnd (.fstr es) r ρ = opndD r := rfl
@[simp] theorem opnd_mt : opnd (.mt m a es) r ρ = opndD r := rfl
@[simp] theorem opnd_app : opnd (.app i e) r ρ = opndD r := rfl
@[simp] theorem opnd_mto : opnd (.mto m i es) r ρ = opndD r := rfl
@[simp] theorem opnd_lc : opnd (.lc own t s c e) r ρ = opndD r := rfl
@[simp] theorem truM_bool (b : Bool) (ρ : Sl) : truM (.bool b) ρ = .ok b ρ := rfl
@[simp] theorem truM_int (b : Int) (ρ : Sl) : truM (.int b) ρ = .ok (b != 0) ρ := rfl
@[simp] theorem truM_list (xs : List D) (ρ : Sl) : truM (.list xs) ρ = .ok (!xs.isEmpty) ρ := rfl
@[simp] theorem truM_tuple (xs : List D) (ρ : Sl) : truM (.tuple xs) ρ = .ok (!xs.isEmpty) ρ := rfl
@[simp] theorem add_int (i j : Int) : binW .add (.int i) (.int j) = some (.d (.int (i + j))) := rfl
@[simp] theorem sub_int (i j : Int) : binW .sub (.int i) (.int j) = some (.d (.int (i - j))) := rfl
@[simp] theorem lt_int (i j : Int) : cmpD .lt (.int i) (.int j) = some (decide (i < j)) := rfl
@[simp] theorem le_int (i j : Int) : cmpD .le (.int i) (.int j) = some (decide (i ≤ j)) := rfl
@[simp] theorem gt_int (i j : Int) : cmpD .gt (.int i) (.int j) = some (decide (j < i)) := rfl
@[simp] theorem ge_int (i j : Int) : cmpD .ge (.int i) (.int j) = some (decide (j ≤ i)) := rfl
@[simp] theorem abs_int (i : Int) : biW .abs [.int i] = some (.d (.int (if i < 0 then -i else i))) := rfl
@[simp] theorem max_int (i j : Int) : biW .max [.int i, .int j] = some (.d (.int (if j > i then j else i))) := rfl
@[simp] theorem min_int (i j : Int) : biW .min [.int i, .int j] = some (.d (.int (if j < i then j else i))) := rfl
theorem fdiv_int (i : Int) {j : Int} (h : j ≠ 0) (h' : j.natAbs < 1073741824) : binW .fdiv (.int i) (.int j) = some (.d (.int (i.fdiv j))) := if_pos ⟨h, h'⟩
theorem mod_int (i : Int) {j : Int} (h : j ≠ 0) : binW .mod (.int i) (.int j) = some (.d (.int (i.fmod j))) := if_pos h
theorem mul_int {i j : Int} (h : mulOk i j = true) : binW .mul (.int i) (.int j) = some (.d (.int (i * j))) := if_pos h
end FF
end
section
set_option Elab.async false
set_option linter.all false
set_option maxRecDepth 100000
set_option maxHeartbeats 4000000
/-! HI: a law that hands lambdas to _law_call: the classes, the tables of code objects, the law's call. -/
namespace FF
open PySem PySem.Spec PyProof.Rows L2 PySem.W HotL LamX

/-! ### the classes of errors -/
def ecB (K : PySem.W.Frag) (D : Addr) : Bool := He.eqO (findIn K (.ref D) "__getattribute__") (some (some (.builtin "BaseException.__getattribute__"))) && He.eqO (findIn K (.ref D) "__getattr__") (some none) && decide (subIn K (.ref D) (.type "BaseException") = some true) && hasDictIn K D &&
  He.eqO (findIn K (.ref D) "__class__") (some (some (.builtin "object.__class__"))) && He.eqO (specialIn K (.builtin "object.__class__") "__get__") (some (some (.builtin "getset_descriptor.__get__"))) && decide (takesIn K (.builtin "object.__class__") = some true) && decide (mroIn K D (.type "object") = some true)
theorem ecB_ok {K : PySem.W.Frag} {D : Addr} (h : ecB K D = true) : ExcC K D := by
  unfold ecB at h
  simp only [Bool.and_eq_true, decide_eq_true_eq] at h
  obtain ⟨⟨⟨⟨⟨⟨⟨h1, h2⟩, h3⟩, h4⟩, h5⟩, h6⟩, h7⟩, h8⟩ := h
  exact ⟨He.eqO_ok h1, He.eqO_ok h2, h3, h4, He.eqO_ok h5, He.eqO_ok h6, h7, h8⟩
def kindB (K : PySem.W.Frag) (x : Str) (bs : List Bool) : Bool := ecB K (He.ga K x) && decide (bs.length = 14) && ((kCs.zip bs).all fun p => decide (kitOne K (.ref (He.ga K x)) (.ref (He.ga K p.1)) = some p.2)) && decide (kitOne K (.ref (He.ga K x)) (.type "ValueError") = some true) &&
  decide (exmOne K (.ref (He.ga K x)) (.ref (He.ga K "TooMany")) = some false) && decide (exmOne K (.ref (He.ga K x)) (.ref (He.ga K "FaceError")) = some true)
theorem kindB_ok {K : PySem.W.Frag} {mg : Str → Option Value} {x : Str} {bs : List Bool} (h : kindB K x bs = true) (g : ∀ y ∈ kCs, mg y = some (.ref (He.ga K y))) (v : mg "ValueError" = none) :
    KindsOf K mg (He.ga K x) bs ∧ exmOne K (.ref (He.ga K x)) (.ref (He.ga K "TooMany")) = some false ∧ exmOne K (.ref (He.ga K x)) (.ref (He.ga K "FaceError")) = some true := by
  unfold kindB at h
  simp only [Bool.and_eq_true, decide_eq_true_eq] at h
  obtain ⟨⟨⟨⟨⟨h1, h2⟩, h3⟩, h4⟩, h5⟩, h6⟩ := h
  refine ⟨⟨h2, ecB_ok h1, fun p hp => ⟨He.ga K p.1, g p.1 (List.of_mem_zip hp).1, of_decide_eq_true (List.all_eq_true.mp h3 p hp)⟩, v, h4⟩, h5, h6⟩
/-! ### the law's def -/
def codeOf (K : PySem.W.Frag) (f : Addr) : Option Addr := match K.lookup f with
  | some ⟨_, _, .func fd, _⟩ => (match fd.code with
    | .ref c => some c
    | _ => none)
  | _ => none
/-- the script may be a list that nobody writes: it is frozen first -/
def spL (K : PySem.W.Frag) (wd : World) (fa xa : Nat → Addr) (n : Nat) (F : FunD) : Sp := fun vs H Q E => vs.length = n ∧ (spF K wd fa xa n F vs H Q E ∨ ∃ a us, H a = some (.lst us) ∧ ∀ o, spF K wd fa xa n F vs (upd H a (.frz o (.lst us))) Q E)
theorem pss_lock {X : Cx} {body : List Stmt} {t : TS} (h : PSs X body t) : PSs X body (fun D σ H => t D σ H ∨ ∃ a us, H a = some (.lst us) ∧ ∀ o, t D σ (upd H a (.frz o (.lst us)))) := by
  refine ⟨fun pins s σ H D I q => ?_⟩
  rcases q with q | ⟨a, us, e, q⟩
  · exact h.run pins s σ H D I q
  · obtain ⟨od, I2⟩ := I.lock e trivial
    exact h.run pins s σ _ D I2 (q od)
section
variable {P : Program} {w : World} {K : PySem.W.Frag} {mg : Str → Option Value} {base : Heap} {fa xa : Nat → Addr} {k : Nat}
theorem fn_okL {N bl errs ks : List Str} {gl : List (Str × D)} {fns : List (Str × Nat)} {params pc pk : Arguments} {body bc bk : List Stmt} {scope sc sk : Scope} {Γ : Nat → FunD} {f : Fn} {fl c TM FE gc gk : Addr} {fd fdc fdk : FuncData} (M : Md K mg xa bl gl errs w)
    (hf : ∀ (i : Nat) (y : Str) (n : Nat), fns[i]? = some (y, n) → FnP P w K mg base fa xa k y n i (Γ i)) (F : L2.FunD K "law" "law" params body scope [] [] fl fd) (S : FnScope N ["script"] scope)
    (hn : f.n = 1) (hs : f.slots = N.length) (hle : f.n ≤ f.slots) (ok : okSs { ctxOf N scope fns gl errs bl f with lam := some ks } f.body body = true)
    (hcode : codeOf K fl = some c) (TB : TabB base mg c (fa 999999)) (tb : fa 999999 ≠ 0)
    (FC : L2.FunD K "_law_call" "_law_call" pc bc sc [] [] gc fdc) (SC : FnScope cN ["call_so"] sc) (bC : L2.Binds K fdc ["call_so"] []) (chC : callB sc bc = true) (gC : mg "_law_call" = some (.ref gc))
    (FK : L2.FunD K "_law_kinds" "_law_kinds" pk bk sk [] [] gk fdk) (SK : FnScope kN ["e"] sk) (bK : L2.Binds K fdk ["e"] []) (chK : kindsB sk bk = true) (gK : mg "_law_kinds" = some (.ref gk))
    (gT : mg "TooMany" = some (.ref TM)) (gF : mg "FaceError" = some (.ref FE)) (hi : mg "isinstance" = none) (hz : mg "zip" = none)
    (kinds : ∀ (c : Nat) (z : Str), ks[c]? = some z → ∃ bs, KindsOf K mg (xa c) bs ∧ kWords bs = z ∧ exmOne K (.ref (xa c)) (.ref TM) = some false ∧ exmOne K (.ref (xa c)) (.ref FE) = some true) :
    FnOk P w K mg base (L2N.CX P w) (k + 3) fl fd ["script"] (spL K w fa xa f.n (evFn Γ f)) := by
  obtain ⟨oc, od, dV, kV, doc, pm, an, cdv, ct, osl, rfl, lk, hcd, _, _⟩ := F.ex
  obtain ⟨oc2, od2, dV2, kV2, doc2, pm2, an2, cdv2, ct2, osl2, rfl, lk2, hcd2, _, _⟩ := FC.ex
  obtain ⟨oc3, od3, dV3, kV3, doc3, pm3, an3, cdv3, ct3, osl3, rfl, lk3, hcd3, _, _⟩ := FK.ex
  have ec : cdv = .ref c := by
    unfold codeOf at hcode
    rw [lk] at hcode
    dsimp only at hcode
    split at hcode
    · cases hcode; rfl
    · cases hcode
  subst ec
  refine fn_of lk hcd S (fun vs H Q E h => by rw [h.1]; exact hn) fun A outer s H vs Q E hr h => ?_
  have LF : LamF Γ fa xa fns ks k TM FE (cxOf (L2N.CX P w) P w K mg base N "law" scope fl (.ref c) A outer s H E) := by
    refine ⟨hf, tb, fun L hdef hbind hmono hbody hg => ?_, kinds⟩
    exact pe_lamcallN hg gC FC.kp lk2 hcd2 bC SC rfl (.inl (by
        unfold callB at chC
        split at chC
        · simp only [Bool.and_eq_true] at chC
          exact of_decide_eq_true (List.all_eq_true.mp chC.2 "call_so" (by simp))
        · cases chC)) (call_gives (k := k) chC gT gF gK FK.kp bK (kinds_fn lk3 hcd3 SK chK hi hz)) TB rfl hr L hdef hbind hmono hbody
  refine ⟨_, pss_lock (sSs (kk := k) Γ f.body body _ _ _ ok (fn_gd (j := k + 2) (lam := some ks) M (fun i y n e => (hf i y n e).mono (by omega)) S hr (fun ks' e => ⟨k, TM, FE, by cases e; exact LF⟩))), ?_⟩
  obtain ⟨_, h | ⟨a, us, e, h⟩⟩ := h
  · exact .inl (fn_body hs hle h)
  · exact .inr ⟨a, us, e, fun o => fn_body hs hle (h o)⟩
end

/-! ### the head -/
def strV : Value → Bool
  | .str _ _ => true
  | _ => false
def intV : Value → Bool
  | .int _ _ => true
  | _ => false
def boolV : Value → Bool
  | .bool _ => true
  | _ => false
theorem strV_ok : ∀ {v : Value}, strV v = true → ∃ x t, v = .str x t := fun {v} h => by cases v <;> first | (cases h; done) | exact ⟨_, _, rfl⟩
theorem intV_ok : ∀ {v : Value}, intV v = true → ∃ x t, v = .int x t := fun {v} h => by cases v <;> first | (cases h; done) | exact ⟨_, _, rfl⟩
theorem boolV_ok : ∀ {v : Value}, boolV v = true → ∃ x, v = .bool x := fun {v} h => by cases v <;> first | (cases h; done) | exact ⟨_, rfl⟩
/-- an empty table -/
def tabB : Option Obj → Bool
  | some ⟨.none, none, .fields ps, sl⟩ => ps.isEmpty && sl.isEmpty
  | _ => false
theorem tabB_ok {o : Option Obj} (h : tabB o = true) : o = some { cls := .none, data := .fields #[] } := by
  unfold tabB at h
  split at h
  · rw [Bool.and_eq_true] at h
    have h1 := Array.isEmpty_iff.mp h.1
    have h2 := Array.isEmpty_iff.mp h.2
    subst h1 h2
    rfl
  · cases h
/-- the table of the code object at c -/
def codeB (g : Addr → Option Obj) (c : Addr) : Addr × Bool := match g c with
  | some ⟨.type k, _, .fields vs, _⟩ => (match (vs[11]? : Option Value) with
    | some (.ref P) => (P, decide (k = "code") && strV (vs.getD 18 .none) && intV (vs.getD 7 .none) && boolV (vs.getD 9 .none) && intV (vs.getD 10 .none) && decide (c ≠ P) && tabB (g P) && decide (P ≠ 0))
    | _ => (0, false))
  | _ => (0, false)
theorem codeB_ok {h : Heap} {c P : Addr} (e : codeB h.get? c = (P, true)) : CodeHd h c P ∧ h.get? P = some { cls := .none, data := .fields #[] } ∧ P ≠ 0 := by
  unfold codeB at e
  split at e
  · rename_i k od vs sl ho
    split at e
    · rename_i Q hv
      obtain ⟨rfl, e2⟩ := Prod.mk.inj e
      simp only [Bool.and_eq_true, decide_eq_true_eq] at e2
      obtain ⟨⟨⟨⟨⟨⟨⟨h1, h2⟩, h3⟩, h4⟩, h5⟩, h6⟩, h7⟩, h8⟩ := e2
      obtain ⟨x1, t1, e1⟩ := strV_ok h2
      obtain ⟨x2, t2, e2⟩ := intV_ok h3
      obtain ⟨x3, e3⟩ := boolV_ok h4
      obtain ⟨x4, t4, e4⟩ := intV_ok h5
      subst h1
      exact ⟨⟨_, vs, x1, t1, x2, t2, x3, x4, t4, ho, rfl, rfl, hv, by rw [Array.getD_eq_getD_getElem?, hv]; rfl, e1, e2, e3, e4, h6⟩, tabB_ok h7, h8⟩
    · cases e
  · cases e
def kindsB (K : PySem.W.Frag) (errs : List Str) (kBs : List (List Bool)) : Bool := decide (errs.length = kBs.length) && (errs.zip kBs).all fun p => kindB K p.1 p.2
structure SaysL (fs : List He.Fa) (gl : List (Str × D)) (fn : List He.DefD) (errs : List Str) (kBs : List (List Bool)) (K : PySem.W.Frag) (c P : Addr) (h : Heap) : Prop where
  s : SaysF fs gl fn K
  k : kindsB K errs kBs = true
  code : codeOf K (He.ga K "law") = some c
  hd : CodeHd h c P
  tab : h.get? P = some { cls := .none, data := .fields #[] }
  nK : K.lookup P = none
  n0 : P ≠ 0
def lawC (K : PySem.W.Frag) : Addr := (codeOf K (He.ga K "law")).getD 0
/-- what is known, but the table at P -/
def dropA (K : PySem.W.Frag) (P : Addr) : PySem.W.Frag := K.filter fun p => p.1 != P
theorem dropA_none {P : Addr} : ∀ {K : PySem.W.Frag}, (dropA K P).lookup P = none
  | [] => rfl
  | (a, u) :: l => by
    unfold dropA
    rw [List.filter_cons]
    by_cases hp : (a != P) = true
    · rw [if_pos hp, List.lookup_cons]
      have h : (P == a) = false := by
        have : a ≠ P := by simpa using hp
        simpa using fun z => this z.symm
      rw [h]
      exact dropA_none (K := l)
    · rw [if_neg hp]
      exact dropA_none (K := l)
theorem dropA_in {K : PySem.W.Frag} {P : Addr} {h : Heap} (X : K.In h) : (dropA K P).In h := fun b o e => by
  have key : ∀ l : List (Addr × Obj), (l.filter fun p => p.1 != P).lookup b = some o → l.lookup b = some o := by
    intro l
    induction l with
    | nil => intro z; simpa using z
    | cons p l ih =>
      obtain ⟨a, u⟩ := p
      intro z
      rw [List.filter_cons] at z
      by_cases hp : (a != P) = true
      · rw [if_pos hp] at z
        rw [List.lookup_cons] at z ⊢
        split at z
        · exact z
        · exact ih z
      · rw [if_neg hp] at z
        have hb : b ≠ P := fun q => by
          subst q
          have := dropA_none (K := l) (P := b)
          unfold dropA at this
          rw [this] at z
          cases z
        have ha : a = P := by simpa using hp
        rw [List.lookup_cons]
        have : (b == a) = false := by rw [ha]; simpa using hb
        rw [this]
        exact ih z
  exact X b o (key K e)
def obsL (fs : List He.Fa) (gl : List (Str × D)) (fn : List He.DefD) (errs : List Str) (kBs : List (List Bool)) (g : Addr → Option Obj) (K0 : PySem.W.Frag) : He.AlD :=
  let q := codeB g (lawC K0)
  let K := dropA K0 q.1
  let o := obsF fs gl fn K
  (q.2 && kindsB K errs kBs && decide (codeOf K (He.ga K "law") = some (lawC K0)) && o.1, o.2)
def obsLG (n : Nat) (fs : List He.Fa) (gl : List (Str × D)) (fn : List He.DefD) (errs : List Str) (kBs : List (List Bool)) (g : Addr → Option Obj) : He.AlD := obsL fs gl fn errs kBs g (He.frG g (He.asD g n))
def hookL (n : Nat) (fs : List He.Fa) (gl : List (Str × D)) (fn : List He.DefD) (errs : List Str) (kBs : List (List Bool)) : PySem.W.Hook where
  α := He.AlD
  obs := fun s => obsLG n fs gl fn errs kBs s.heap.get?
  val := fun _ => He.valD fn
  says := fun _ h => ∃ (K : PySem.W.Frag) (c P : Addr), K.In h ∧ SaysL fs gl fn errs kBs K c P h
  of := fun _ s e => by
    have e : obsL fs gl fn errs kBs s.heap.get? (He.frG s.heap.get? (He.asD s.heap.get? n)) = He.valD fn := e
    unfold obsL at e
    dsimp only at e
    obtain ⟨e1, e2⟩ := Prod.mk.inj e
    simp only [Bool.and_eq_true, decide_eq_true_eq] at e1
    obtain ⟨⟨⟨q1, q2⟩, q3⟩, q4⟩ := e1
    obtain ⟨h1, h2, h3⟩ := codeB_ok (h := s.heap) (c := lawC (He.frG s.heap.get? (He.asD s.heap.get? n))) (P := (codeB s.heap.get? (lawC (He.frG s.heap.get? (He.asD s.heap.get? n)))).1) (Prod.ext rfl q1)
    exact ⟨_, _, _, dropA_in He.frG_in, Prod.ext q4 e2, q2, q3, h1, h2, dropA_none, h3⟩
  keeps := fun _ _ _ ⟨K, c, P, hK, q⟩ k => ⟨K, c, P, PySem.W.Frag.In.keeps hK k, q.s, q.k, q.code, q.hd.keeps k, k _ _ q.tab, q.nK, q.n0⟩
theorem obsLG_eq {n : Nat} {fs : List He.Fa} {gl : List (Str × D)} {fn : List He.DefD} {errs : List Str} {kBs : List (List Bool)} {g : Addr → Option Obj} {s : Shared} (h : ∀ a, g a = s.heap.get? a) : obsLG n fs gl fn errs kBs g = (hookL n fs gl fn errs kBs).obs s := by
  have e : g = s.heap.get? := funext h
  rw [e] <;> rfl
/-! ### the law's call -/
theorem walk_L {l : PySem.W.OpenLaw} {n k : Nat} {q : Program} {loose : List Str} {XP : (Str → Option Value) → Heap → Prop} {YP : World → Heap → Prop} {d : DefRec} {x : Str} (hn : l.most = some n) (hz : n ≤ sizeLine) (hd : d.params.defaults = []) (room : Room k callerA)
    (F : ∀ (w : World) (mg : Str → Option Value) (a : Addr) (h : Heap), YP w h → h.Ns mainGlobals mg → mg d.name = some (.ref a) → ∃ (K : PySem.W.Frag) (fd : FuncData) (fa xa : Nat → Addr) (Φ : FunD) (c P : Addr), K.In h ∧ (∀ (s : Shared) (u : Value), BindsTo s fd ⟨[u], []⟩ [(x, u)]) ∧
      fa 999999 = P ∧ CodeHd h c P ∧ h.get? P = some { cls := .none, data := .fields #[] } ∧ K.lookup P = none ∧
      (∀ base : Heap, K.In base → base.Ns mainGlobals mg → TabB base mg c P → FnOk l.prog w K mg base (L2N.CX l.prog w) k a fd [x] (spL K w fa xa 1 Φ)) ∧ ∀ ns : List Int, ns.length ≤ n → ∃ o, Φ [.d (scriptD ns)] = .ok (.d (.bool true)) o) :
    PySem.W.WalkO q loose XP YP l.row.toRowW d [] (fun f vs => PySem.call f vs) := by
  refine Att.attach_call hn hd fun w s0 s1 mg mb a o pm cd doc b vs ns G Y _ _ _ hm hobj hi hl hg => ?_
  obtain ⟨K, fd, fa, xa, Φ, c, P, KX, hb, eP, hC, hT, nT, hF, true_⟩ := F w mg a _ Y G.T.g hm
  have one : ∀ {A : Addr × Addr → Prop}, A (c, P) → ∀ p ∈ [(c, P)], A p := fun h p hp => by rw [List.mem_singleton.mp hp]; exact h
  refine law_callTs (cs := [(c, P)]) KX G.T.g G.T.b G.T.builtins G.T.nolimit hg (one hT) (one nT) (one hC) G.T.bmain hobj hi (Nat.le_trans hl hz) room (fun base h1 h2 h3 => hF base h1 h2 (h3 _ List.mem_cons_self)) hb (fun H hH hS => ?_) fun H e s' z => ?_
  · obtain ⟨oo, eo⟩ := true_ ns hl
    have hP : H P = some (.tbl #[]) := hH (c, P) List.mem_cons_self
    have fin : ∀ H' : Hp, FzL K H' b (ns.map V.int) → H' P = some (.tbl #[]) → spF K w fa xa 1 Φ [.ref b] H' (fun v _ => v = .bl true) fun _ _ _ => False := fun H' fz hP' => by
      refine ⟨rfl, [.d (scriptD ns)], ⟨rfl, fun i w' e => ?_, fun i j c h1 _ => ?_, fun _ => by rw [eP]; exact TabS.nil hP'⟩, ?_⟩
      · cases i with
        | zero => simp at e; subst e; exact .inr ⟨.ref b, rfl, .lst fz (RDs.of_ints ns)⟩
        | succ i => simp at e
      · obtain ⟨w', e, hh, _⟩ := h1
        cases i with
        | zero => simp at e; subst e; cases hh
        | succ i => simp at e
      · rw [eo]
        intro v H' _ r
        have r := r.rw
        cases r
        rfl
    refine ⟨rfl, ?_⟩
    rcases hS with (h | h) | ⟨ob, its, m, h1, h2, h3, h4, h5, h6⟩
    · refine .inr ⟨b, _, h, fun o => fin _ (.inl ⟨o, upd_same⟩) ?_⟩
      rw [upd_ne (fun z => by rw [z, h] at hP; cases hP)]; exact hP
    · exact .inl (fin H (.inl h) hP)
    · have e := KX b ob h1
      rw [hobj] at e
      cases e
      cases h4
      exact .inl (fin H (.inr ⟨vs, _, h1, by simpa using h6, by rw [List.length_map]; exact Nat.le_trans hl hz⟩) hP)
  · obtain ⟨_, _, _, _, _, _, _, _, _, _, _, _, z⟩ := z
    exact z
theorem kinds_of {K : PySem.W.Frag} {mg : Str → Option Value} {errs : List Str} {kBs : List (List Bool)} {ks : List Str} (h : kindsB K errs kBs = true) (g : ∀ y ∈ kCs, mg y = some (.ref (He.ga K y))) (v : mg "ValueError" = none) (e : kBs.map kWords = ks) :
    ∀ (c : Nat) (z : Str), ks[c]? = some z → ∃ bs, KindsOf K mg (He.ga K (errs.getD c Str.empty)) bs ∧ kWords bs = z ∧ exmOne K (.ref (He.ga K (errs.getD c Str.empty))) (.ref (He.ga K "TooMany")) = some false ∧ exmOne K (.ref (He.ga K (errs.getD c Str.empty))) (.ref (He.ga K "FaceError")) = some true := by
  intro c z hz
  subst e
  unfold kindsB at h
  rw [Bool.and_eq_true, decide_eq_true_eq] at h
  rw [List.getElem?_map] at hz
  cases hb : kBs[c]? with
  | none => rw [hb] at hz; cases hz
  | some bs =>
    rw [hb] at hz
    have hz : kWords bs = z := Option.some.inj hz
    have hc : c < kBs.length := (List.getElem?_eq_some_iff.mp hb).1
    obtain ⟨x, hx⟩ : ∃ x, errs[c]? = some x := ⟨_, List.getElem?_eq_getElem (by omega)⟩
    have m : (x, bs) ∈ errs.zip kBs := by
      refine List.mem_of_getElem? (i := c) ?_
      rw [List.getElem?_zip_eq_some]
      exact ⟨hx, hb⟩
    have := kindB_ok (List.all_eq_true.mp h.2 _ m) g v
    rw [List.getD_eq_getElem?_getD, hx]
    exact ⟨bs, this.1, hz, this.2⟩
end FF
end
section
set_option Elab.async false
set_option linter.all false
set_option maxRecDepth 100000
set_option maxHeartbeats 0
namespace Pg
open PySem PySem.Spec PyProof.Rows L2 PySem.W FF HotL LamX
def top (i : Nat) : Stmt := PySem.Challenge.pw_facingtexts_k03_texts_that_are_laid.main.body.getD i (.Pass ⟨0, 0, 0, 0⟩)
def kindsL : List Str := ["+", "InvalidBook +", "InvalidText +", "InvalidPart +", "InvalidStand +", "InvalidWord +", "InvalidSide +", "InvalidChange +", "InvalidNumber +", "InvalidName +", "InvalidIndex +", "NoText +", "Unlike +", "NothingToUndo +"]
/-- is_within -/
def fn0 : Fn := ⟨3, 3, [0, 1, 2],
    (.cons (.ret (.and (.isi .int (.var 0)) (.and (.not (.isi .bool (.var 0))) (.one (.chain .le .le (.var 1) (.var 0) (.var 2))))))
    .nil)⟩
/-- is_name -/
def fn1 : Fn := ⟨1, 2, [0],
    (.cons (.ret (.and (.isi .str (.var 0)) (.and (.chain .le .le (.k (.int 1)) (.bi .len (.cons (.var 0) .nil)) (.k (.int 8))) (.one (.bi .all (.cons (.lc [1] (.nm 1) (.lk 0) .nil (.cmp .isIn (.var 1) (.g 0 (.str "abcdefghijklmnopqrstuvwxyz")))) .nil))))))
    .nil)⟩
/-- climbs -/
def fn2 : Fn := ⟨1, 3, [0],
    (.cons (.ret (.bi .all (.cons (.lc [1, 2] (.tp (.cons (.nm 1) (.cons (.nm 2) .nil))) (.zip (.var 0) (.slc (.var 0) (.cons (.k (.int 1)) .nil) .nil)) .nil (.cmp .lt (.var 1) (.var 2))) .nil)))
    .nil)⟩
/-- is_pair -/
def fn3 : Fn := ⟨1, 1, [0],
    (.cons (.if_ (.or (.not (.isi .tuple (.var 0))) (.one (.cmp .ne (.bi .len (.cons (.var 0) .nil)) (.k (.int 2))))) (.cons (.ret (.k (.bool false)))
    .nil) .nil)
    (.cons (.ret (.and (.call 0 (.cons (.idx (.var 0) (.k (.int 0))) (.cons (.k (.int 0)) (.cons (.k (.int 4)) .nil)))) (.and (.call 0 (.cons (.idx (.var 0) (.k (.int 1))) (.cons (.k (.int 0)) (.cons (.k (.int 4)) .nil)))) (.one (.cmp .ne (.var 0) (.tup (.cons (.k (.int 0)) (.cons (.k (.int 0)) .nil))))))))
    .nil))⟩
/-- is_kind -/
def fn4 : Fn := ⟨1, 2, [0],
    (.cons (.if_ (.or (.not (.isi .tuple (.var 0))) (.or (.cmp .ne (.bi .len (.cons (.var 0) .nil)) (.k (.int 3))) (.or (.not (.call 1 (.cons (.idx (.var 0) (.k (.int 0))) .nil))) (.one (.not (.isi .bool (.idx (.var 0) (.k (.int 2))))))))) (.cons (.ret (.k (.bool false)))
    .nil) .nil)
    (.cons (.if_ (.or (.not (.isi .tuple (.idx (.var 0) (.k (.int 1))))) (.one (.not (.chain .le .le (.k (.int 1)) (.bi .len (.cons (.idx (.var 0) (.k (.int 1))) .nil)) (.k (.int 3)))))) (.cons (.ret (.k (.bool false)))
    .nil) .nil)
    (.cons (.ret (.and (.bi .all (.cons (.lc [1] (.nm 1) (.it (.idx (.var 0) (.k (.int 1)))) .nil (.call 3 (.cons (.var 1) .nil))) .nil)) (.one (.call 2 (.cons (.idx (.var 0) (.k (.int 1))) .nil)))))
    .nil)))⟩
/-- is_book -/
def fn5 : Fn := ⟨1, 2, [0],
    (.cons (.if_ (.or (.not (.isi .tuple (.var 0))) (.or (.cmp .ne (.bi .len (.cons (.var 0) .nil)) (.k (.int 4))) (.one (.not (.call 0 (.cons (.idx (.var 0) (.k (.int 0))) (.cons (.k (.int 2)) (.cons (.k (.int 6)) .nil)))))))) (.cons (.ret (.k (.bool false)))
    .nil) .nil)
    (.cons (.if_ (.or (.not (.call 0 (.cons (.idx (.var 0) (.k (.int 1))) (.cons (.k (.int 0)) (.cons (.g 2 (.int 4)) .nil))))) (.or (.not (.isi .bool (.idx (.var 0) (.k (.int 2))))) (.one (.not (.isi .tuple (.idx (.var 0) (.k (.int 3)))))))) (.cons (.ret (.k (.bool false)))
    .nil) .nil)
    (.cons (.if_ (.or (.not (.chain .le .le (.k (.int 1)) (.bi .len (.cons (.idx (.var 0) (.k (.int 3))) .nil)) (.k (.int 3)))) (.one (.not (.bi .all (.cons (.lc [1] (.nm 1) (.it (.idx (.var 0) (.k (.int 3)))) .nil (.call 4 (.cons (.var 1) .nil))) .nil))))) (.cons (.ret (.k (.bool false)))
    .nil) .nil)
    (.cons (.ret (.and (.call 2 (.cons (.lc [1] (.nm 1) (.it (.idx (.var 0) (.k (.int 3)))) .nil (.idx (.var 1) (.k (.int 0)))) .nil)) (.one (.cmp .le (.bi .sum (.cons (.lc [1] (.nm 1) (.it (.idx (.var 0) (.k (.int 3)))) .nil (.bi .len (.cons (.idx (.var 1) (.k (.int 1))) .nil))) .nil)) (.g 1 (.int 6))))))
    .nil))))⟩
/-- need_book -/
def fn6 : Fn := ⟨1, 1, [0],
    (.cons (.if_ (.not (.call 5 (.cons (.var 0) .nil))) (.cons (.raise 1)
    .nil) .nil)
    .nil)⟩
/-- all_parts -/
def fn7 : Fn := ⟨1, 7, [0],
    (.cons (.asg (.nm 1) (.lst .nil))
    (.cons (.for_ (.tp (.cons (.nm 2) (.cons (.nm 3) (.cons (.nm 4) .nil)))) (.it (.idx (.var 0) (.k (.int 3)))) (.cons (.ex (.mto .extend 1 (.cons (.lc [5, 6] (.tp (.cons (.nm 5) (.cons (.nm 6) .nil))) (.lk 3) .nil (.tup (.cons (.var 2) (.cons (.var 5) (.cons (.var 6) .nil))))) .nil)))
    .nil))
    (.cons (.ret (.mv 1))
    .nil)))⟩
/-- is_part -/
def fn8 : Fn := ⟨2, 2, [0, 1],
    (.cons (.if_ (.or (.not (.isi .tuple (.var 1))) (.or (.cmp .ne (.bi .len (.cons (.var 1) .nil)) (.k (.int 3))) (.one (.not (.isi .str (.idx (.var 1) (.k (.int 0)))))))) (.cons (.ret (.k (.bool false)))
    .nil) .nil)
    (.cons (.ret (.and (.call 0 (.cons (.idx (.var 1) (.k (.int 1))) (.cons (.k (.int 0)) (.cons (.k (.int 4)) .nil)))) (.and (.call 0 (.cons (.idx (.var 1) (.k (.int 2))) (.cons (.k (.int 0)) (.cons (.k (.int 4)) .nil)))) (.one (.cmp .isIn (.var 1) (.call 7 (.cons (.var 0) .nil)))))))
    .nil))⟩
/-- are_parts -/
def fn9 : Fn := ⟨2, 3, [0, 1],
    (.cons (.ret (.and (.isi .tuple (.var 1)) (.one (.bi .all (.cons (.lc [2] (.nm 2) (.lk 1) .nil (.call 8 (.cons (.var 0) (.cons (.var 2) .nil)))) .nil)))))
    .nil)⟩
/-- need_text -/
def fn10 : Fn := ⟨2, 2, [0, 1],
    (.cons (.if_ (.not (.call 9 (.cons (.var 0) (.cons (.var 1) .nil)))) (.cons (.raise 2)
    .nil) .nil)
    .nil)⟩
/-- kind_named -/
def fn11 : Fn := ⟨2, 3, [0, 1],
    (.cons (.for_ (.nm 2) (.it (.idx (.var 0) (.k (.int 3)))) (.cons (.if_ (.cmp .eq (.idx (.var 2) (.k (.int 0))) (.var 1)) (.cons (.ret (.mv 2))
    .nil) .nil)
    .nil))
    (.cons (.ret (.k .none))
    .nil))⟩
/-- begun_at -/
def fn12 : Fn := ⟨3, 8, [0, 1, 2],
    (.cons (.asg (.tp (.cons (.nm 3) (.cons (.nm 4) (.cons (.nm 5) .nil)))) (.slc (.var 0) .nil (.cons (.k (.int 3)) .nil)))
    (.cons (.asg (.tp (.cons (.nm 6) (.cons (.nm 7) .nil))) (.var 1))
    (.cons (.if_ (.or (.idx (.call 11 (.cons (.var 0) (.cons (.idx (.var 2) (.k (.int 0))) .nil))) (.k (.int 2))) (.one (.cmp .gt (.bi .abs (.cons (.bin .sub (.var 7) (.var 6)) .nil)) (.var 4)))) (.cons (.par [6, 7] (.cons (.bi .max (.cons (.var 6) (.cons (.var 7) .nil))) (.cons (.bi .max (.cons (.var 6) (.cons (.var 7) .nil))) .nil)))
    .nil) .nil)
    (.cons (.if_ (.and (.var 5) (.one (.cmp .lt (.bin .fdiv (.var 6) (.var 3)) (.bin .fdiv (.var 7) (.var 3))))) (.cons (.asg (.nm 6) (.bin .mul (.bin .fdiv (.var 7) (.var 3)) (.var 3)))
    .nil) (.cons (.if_ (.and (.var 5) (.one (.cmp .lt (.bin .fdiv (.var 7) (.var 3)) (.bin .fdiv (.var 6) (.var 3))))) (.cons (.asg (.nm 7) (.bin .mul (.bin .fdiv (.var 6) (.var 3)) (.var 3)))
    .nil) .nil)
    .nil))
    (.cons (.ret (.tup (.cons (.var 6) (.cons (.var 7) .nil))))
    .nil)))))⟩
/-- words_at -/
def fn13 : Fn := ⟨3, 6, [0, 1, 2],
    (.cons (.asg (.tp (.cons (.nm 3) (.cons (.nm 4) .nil))) (.var 1))
    (.cons (.if_ (.or (.cmp .eq (.idx (.var 2) (.k (.int 1))) (.k (.int 0))) (.or (.cmp .eq (.idx (.var 2) (.k (.int 2))) (.k (.int 0))) (.one (.cmp .eq (.bin .fdiv (.var 3) (.var 0)) (.bin .fdiv (.var 4) (.var 0)))))) (.cons (.ret (.tup .nil))
    .nil) .nil)
    (.cons (.asg (.nm 5) (.tup (.cons (.bin .fdiv (.bin .sub (.bin .add (.var 3) (.idx (.var 2) (.k (.int 1)))) (.k (.int 1))) (.var 0)) (.cons (.bin .fdiv (.bin .sub (.bin .add (.var 4) (.idx (.var 2) (.k (.int 2)))) (.k (.int 1))) (.var 0)) .nil))))
    (.cons (.if_ (.or (.cmp .lt (.idx (.var 5) (.k (.int 0))) (.bin .fdiv (.var 4) (.var 0))) (.one (.cmp .lt (.idx (.var 5) (.k (.int 1))) (.bin .fdiv (.var 3) (.var 0))))) (.cons (.ret (.tup (.cons (.k (.str "apart")) (.cons (.k (.str "torn")) .nil))))
    .nil) .nil)
    (.cons (.ret (.tup (.cons (.k (.str "torn")) .nil)))
    .nil)))))⟩
/-- spreads_to -/
def fn14 : Fn := ⟨2, 2, [0, 1],
    (.cons (.ret (.bin .fdiv (.bin .sub (.bin .add (.bi .max (.cons (.var 1) .nil)) (.var 0)) (.k (.int 1))) (.var 0)))
    .nil)⟩
/-- laid -/
def fn15 : Fn := ⟨3, 4, [0, 1, 2],
    (.cons (.asg (.nm 3) (.call 12 (.cons (.var 0) (.cons (.var 1) (.cons (.var 2) .nil)))))
    (.cons (.ret (.tup (.cons (.var 3) (.cons (.tup (.cons (.bin .add (.idx (.var 3) (.k (.int 0))) (.idx (.var 2) (.k (.int 1)))) (.cons (.bin .add (.idx (.var 3) (.k (.int 1))) (.idx (.var 2) (.k (.int 2)))) .nil))) .nil))))
    .nil))⟩
/-- all_laid -/
def fn16 : Fn := ⟨2, 6, [0, 1],
    (.cons (.par [2, 3] (.cons (.lst .nil) (.cons (.g 3 (.tuple [(.int 0), (.int 0)])) .nil)))
    (.cons (.for_ (.nm 4) (.lk 1) (.cons (.asg (.tp (.cons (.nm 5) (.cons (.nm 3) .nil))) (.call 15 (.cons (.var 0) (.cons (.var 3) (.cons (.var 4) .nil)))))
    (.cons (.ex (.app 2 (.var 5)))
    .nil)))
    (.cons (.ret (.tup (.cons (.var 2) (.cons (.var 3) .nil))))
    .nil)))⟩
/-- all_laid (own) -/
def fn17 : Fn := ⟨2, 6, [0, 1],
    (.cons (.par [2, 3] (.cons (.lst .nil) (.cons (.g 3 (.tuple [(.int 0), (.int 0)])) .nil)))
    (.cons (.for_ (.nm 4) (.lk 1) (.cons (.asg (.tp (.cons (.nm 5) (.cons (.nm 3) .nil))) (.call 15 (.cons (.var 0) (.cons (.var 3) (.cons (.var 4) .nil)))))
    (.cons (.ex (.app 2 (.var 5)))
    .nil)))
    .nil))⟩
/-- all_broken -/
def fn18 : Fn := ⟨2, 7, [0, 1],
    (.cons (.asg (.nm 2) (.lst .nil))
    (.cons (.for_ (.tp (.cons (.nm 3) (.cons (.tp (.cons (.nm 4) (.cons (.nm 5) .nil))) .nil))) (.enumz (.idx (.call 16 (.cons (.var 0) (.cons (.var 1) .nil))) (.k (.int 0))) (.var 1)) (.cons (.ex (.mto .extend 2 (.cons (.lc [6] (.nm 6) (.it (.call 13 (.cons (.idx (.var 0) (.k (.int 0))) (.cons (.var 4) (.cons (.var 5) .nil))))) .nil (.tup (.cons (.var 3) (.cons (.var 6) .nil)))) .nil)))
    .nil))
    (.cons (.ret (.mv 2))
    .nil)))⟩
/-- count_spreads -/
def fn19 : Fn := ⟨2, 2, [0, 1],
    (.cons (.ret (.call 14 (.cons (.idx (.var 0) (.k (.int 0))) (.cons (.idx (.call 16 (.cons (.var 0) (.cons (.var 1) .nil))) (.k (.int 1))) .nil))))
    .nil)⟩
/-- begins -/
def fn20 : Fn := ⟨2, 2, [0, 1],
    (.cons (.ex (.call 6 (.cons (.var 0) .nil)))
    (.cons (.ex (.call 10 (.cons (.var 0) (.cons (.var 1) .nil))))
    (.cons (.ret (.call 17 (.cons (.var 0) (.cons (.var 1) .nil))))
    .nil)))⟩
/-- spreads -/
def fn21 : Fn := ⟨2, 2, [0, 1],
    (.cons (.ex (.call 6 (.cons (.var 0) .nil)))
    (.cons (.ex (.call 10 (.cons (.var 0) (.cons (.var 1) .nil))))
    (.cons (.ret (.call 19 (.cons (.var 0) (.cons (.var 1) .nil))))
    .nil)))⟩
/-- blanks -/
def fn22 : Fn := ⟨2, 5, [0, 1],
    (.cons (.ex (.call 6 (.cons (.var 0) .nil)))
    (.cons (.ex (.call 10 (.cons (.var 0) (.cons (.var 1) .nil))))
    (.cons (.asg (.tp (.cons (.nm 2) (.cons (.nm 3) .nil))) (.idx (.call 16 (.cons (.var 0) (.cons (.var 1) .nil))) (.k (.int 1))))
    (.cons (.ret (.tup (.cons (.bin .sub (.var 2) (.bi .sum (.cons (.lc [4] (.nm 4) (.lk 1) .nil (.idx (.var 4) (.k (.int 1)))) .nil))) (.cons (.bin .sub (.var 3) (.bi .sum (.cons (.lc [4] (.nm 4) (.lk 1) .nil (.idx (.var 4) (.k (.int 2)))) .nil))) .nil))))
    .nil))))⟩
/-- broken -/
def fn23 : Fn := ⟨2, 2, [0, 1],
    (.cons (.ex (.call 6 (.cons (.var 0) .nil)))
    (.cons (.ex (.call 10 (.cons (.var 0) (.cons (.var 1) .nil))))
    (.cons (.ret (.call 18 (.cons (.var 0) (.cons (.var 1) .nil))))
    .nil)))⟩
/-- _law_well -/
def fn24 : Fn := ⟨2, 4, [0, 1],
    (.cons (.asg (.nm 2) (.bin .mul (.k (.int 7919)) (.bin .add (.var 1) (.k (.int 1)))))
    (.cons (.if_ (.cmp .lt (.var 1) (.bi .len (.cons (.var 0) .nil))) (.cons (.asg (.nm 2) (.bin .mod (.bi .int (.cons (.bi .abs (.cons (.idx (.var 0) (.var 1)) .nil)) .nil)) (.bin .mul (.bin .mul (.bin .mul (.bin .pow (.k (.int 10)) (.k (.int 59))) (.bin .pow (.k (.int 10)) (.k (.int 60)))) (.bin .pow (.k (.int 10)) (.k (.int 61)))) (.bin .pow (.k (.int 10)) (.k (.int 48))))))
    .nil) .nil)
    (.cons (.for_ (.nm 3) (.it (.slc (.var 0) (.cons (.bin .add (.var 1) (.k (.int 1))) .nil) (.cons (.bin .add (.var 1) (.k (.int 4))) .nil))) (.cons (.asg (.nm 2) (.bin .add (.var 2) (.bin .mul (.bin .mod (.bi .int (.cons (.bi .abs (.cons (.var 3) .nil)) .nil)) (.k (.int 65537))) (.bi .int (.cons (.cmp .lt (.var 2) (.bin .pow (.k (.int 10)) (.k (.int 18)))) .nil)))))
    .nil))
    (.cons (.ret (.lst (.cons (.ife (.cmp .ge (.var 2) (.bin .pow (.k (.int 10)) (.k (.int 18)))) (.var 2) (.k (.int 0))) (.cons (.bin .add (.bin .mod (.bin .mul (.bi .int (.cons (.bin .add (.bin .mod (.var 2) (.k (.int 2147483587))) (.k (.int 31))) .nil)) (.bin .add (.var 1) (.k (.int 3)))) (.k (.int 2147483587))) (.k (.int 1))) .nil))))
    .nil))))⟩
/-- _law_take -/
def fn25 : Fn := ⟨2, 4, [0, 1],
    (.cons (.if_ (.cmp .gt (.idx (.var 0) (.k (.int 0))) (.k (.int 0))) (.cons (.asg (.nm 2) (.bin .mod (.bi .int (.cons (.idx (.var 0) (.k (.int 0))) .nil)) (.var 1)))
    (.cons (.asg (.sub 0 (.k (.int 0))) (.bin .fdiv (.idx (.var 0) (.k (.int 0))) (.var 1)))
    (.cons (.ret (.mv 2))
    .nil))) .nil)
    (.cons (.asg (.tp (.cons (.nm 2) (.cons (.nm 3) .nil))) (.tup (.cons (.k (.int 0)) (.cons (.k (.int 1)) .nil))))
    (.cons (.whl (.or (.cmp .lt (.var 3) (.var 1)) (.one (.cmp .eq (.var 3) (.k (.int 1))))) (.cons (.asg (.sub 0 (.k (.int 1))) (.bin .mod (.bi .int (.cons (.bin .add (.bin .mul (.idx (.var 0) (.k (.int 1))) (.k (.int 48271))) (.k (.int 11))) .nil)) (.k (.int 2147483587))))
    (.cons (.asg (.nm 2) (.bin .add (.bin .mul (.var 2) (.k (.int 32768))) (.bin .mod (.bi .int (.cons (.bin .fdiv (.idx (.var 0) (.k (.int 1))) (.k (.int 40961))) .nil)) (.k (.int 32768)))))
    (.cons (.asg (.nm 3) (.bin .mul (.var 3) (.k (.int 32768))))
    .nil))))
    (.cons (.ret (.bin .mod (.bi .int (.cons (.var 2) .nil)) (.var 1)))
    .nil))))⟩
/-- _law_any -/
def fn26 : Fn := ⟨2, 2, [0, 1],
    (.cons (.ret (.idx (.var 1) (.call 25 (.cons (.var 0) (.cons (.bi .len (.cons (.var 1) .nil)) .nil)))))
    .nil)⟩
/-- _law_words_of -/
def fn27 : Fn := ⟨1, 2, [0],
    (.cons (.asg (.nm 1) (.lst (.cons (.lst (.cons (.k (.str "a")) (.cons (.k (.str "b")) (.cons (.k (.str "c")) .nil)))) (.cons (.lst (.cons (.k (.str "note")) (.cons (.k (.str "text")) (.cons (.k (.str "verse")) .nil)))) (.cons (.lst (.cons (.k (.str "kind")) (.cons (.k (.str "level")) (.cons (.k (.str "pages")) .nil)))) .nil)))))
    (.cons (.ret (.call 26 (.cons (.var 0) (.cons (.bin .add (.var 1) (.lst (.cons (.lst (.cons (.k (.str "b")) (.cons (.k (.str "bb")) (.cons (.k (.str "zzzzzzzz")) .nil)))) .nil))) .nil))))
    .nil))⟩
/-- _law_pairs -/
def fn28 : Fn := ⟨2, 6, [0, 1],
    (.cons (.par [2, 3] (.cons (.lst .nil) (.cons (.call 26 (.cons (.var 0) (.cons (.lst (.cons (.k (.int 3)) (.cons (.k (.int 3)) (.cons (.k (.int 4)) (.cons (.k (.int 5)) .nil))))) .nil))) .nil)))
    (.cons (.for_ (.nm 4) (.r1 (.bin .add (.k (.int 1)) (.call 25 (.cons (.var 0) (.cons (.bi .min (.cons (.k (.int 3)) (.cons (.var 1) .nil))) .nil))))) (.cons (.asg (.nm 5) (.tup (.cons (.call 25 (.cons (.var 0) (.cons (.var 3) .nil))) (.cons (.call 25 (.cons (.var 0) (.cons (.var 3) .nil))) .nil))))
    (.cons (.if_ (.and (.cmp .ne (.var 5) (.tup (.cons (.k (.int 0)) (.cons (.k (.int 0)) .nil)))) (.one (.cmp .notIn (.var 5) (.var 2)))) (.cons (.ex (.app 2 (.var 5)))
    .nil) .nil)
    .nil)))
    (.cons (.ret (.ife (.cmp .ne (.var 2) (.lst .nil)) (.bi .tuple (.cons (.bi .sorted (.cons (.var 2) .nil)) .nil)) (.tup (.cons (.tup (.cons (.k (.int 1)) (.cons (.k (.int 2)) .nil))) .nil))))
    .nil)))⟩
/-- _law_book -/
def fn29 : Fn := ⟨3, 8, [0, 1],
    (.cons (.par [3, 4, 5] (.cons (.call 27 (.cons (.var 0) .nil)) (.cons (.lst .nil) (.cons (.bin .add (.k (.int 2)) (.call 25 (.cons (.var 0) (.cons (.bin .sub (.var 1) (.k (.int 1))) .nil)))) .nil))))
    (.cons (.for_ (.nm 6) (.it (.slc (.var 3) .nil (.cons (.bin .add (.k (.int 1)) (.call 25 (.cons (.var 0) (.cons (.k (.int 3)) .nil)))) .nil))) (.cons (.if_ (.cmp .gt (.var 2) (.k (.int 0))) (.cons (.asg (.nm 7) (.call 28 (.cons (.var 0) (.cons (.var 2) .nil))))
    (.cons (.asg (.nm 2) (.bin .sub (.var 2) (.bi .len (.cons (.var 7) .nil))))
    (.cons (.ex (.app 4 (.tup (.cons (.var 6) (.cons (.var 7) (.cons (.cmp .eq (.call 25 (.cons (.var 0) (.cons (.k (.int 3)) .nil))) (.k (.int 0))) .nil))))))
    .nil))) .nil)
    .nil))
    (.cons (.ret (.tup (.cons (.var 5) (.cons (.call 26 (.cons (.var 0) (.cons (.lst (.cons (.k (.int 0)) (.cons (.k (.int 1)) (.cons (.k (.int 2)) (.cons (.k (.int 2)) (.cons (.k (.int 3)) (.cons (.k (.int 4)) .nil))))))) .nil))) (.cons (.cmp .eq (.call 25 (.cons (.var 0) (.cons (.k (.int 3)) .nil))) (.k (.int 0))) (.cons (.bi .tuple (.cons (.var 4) .nil)) .nil))))))
    .nil)))⟩
/-- _law_all_parts -/
def fn30 : Fn := ⟨1, 6, [0],
    (.cons (.asg (.nm 1) (.lst .nil))
    (.cons (.for_ (.tp (.cons (.nm 2) (.cons (.nm 3) (.cons (.nm 4) .nil)))) (.it (.idx (.var 0) (.k (.int 3)))) (.cons (.asg (.nm 1) (.bin .add (.var 1) (.lc [5] (.nm 5) (.lk 3) .nil (.bin .add (.tup (.cons (.var 2) .nil)) (.var 5)))))
    .nil))
    (.cons (.ret (.mv 1))
    .nil)))⟩
/-- _law_text -/
def fn31 : Fn := ⟨3, 6, [0, 1, 2],
    (.cons (.asg (.nm 3) (.call 30 (.cons (.var 1) .nil)))
    (.cons (.asg (.nm 4) (.call 26 (.cons (.var 0) (.cons (.var 3) .nil))))
    (.cons (.ret (.bi .tuple (.cons (.lc [5] (.nm 5) (.r1 (.call 25 (.cons (.var 0) (.cons (.bin .add (.var 2) (.k (.int 1))) .nil)))) .nil (.call 26 (.cons (.var 0) (.cons (.bin .add (.var 3) (.lst (.cons (.var 4) (.cons (.var 4) .nil)))) .nil)))) .nil)))
    .nil)))⟩
/-- _law_begin -/
def fn32 : Fn := ⟨3, 11, [0, 1, 2],
    (.cons (.asg (.tp (.cons (.nm 3) (.cons (.nm 4) (.cons (.nm 5) (.cons (.nm 6) .nil))))) (.var 0))
    (.cons (.asg (.nm 7) (.idx (.idx (.lc [8] (.nm 8) (.lk 6) (.cons (.cmp .eq (.idx (.var 8) (.k (.int 0))) (.idx (.var 2) (.k (.int 0)))) .nil) (.var 8)) (.k (.int 0))) (.k (.int 2))))
    (.cons (.asg (.tp (.cons (.nm 9) (.cons (.nm 10) .nil))) (.var 1))
    (.cons (.if_ (.or (.var 7) (.or (.cmp .gt (.bin .sub (.var 10) (.var 9)) (.var 4)) (.one (.cmp .gt (.bin .sub (.var 9) (.var 10)) (.var 4))))) (.cons (.par [9, 10] (.cons (.bi .max (.cons (.var 9) (.cons (.var 10) .nil))) (.cons (.bi .max (.cons (.var 9) (.cons (.var 10) .nil))) .nil)))
    .nil) .nil)
    (.cons (.if_ (.var 5) (.cons (.whl (.cmp .lt (.bin .fdiv (.var 9) (.var 3)) (.bin .fdiv (.var 10) (.var 3))) (.cons (.asg (.nm 9) (.bin .add (.var 9) (.k (.int 1))))
    .nil))
    (.cons (.whl (.cmp .lt (.bin .fdiv (.var 10) (.var 3)) (.bin .fdiv (.var 9) (.var 3))) (.cons (.asg (.nm 10) (.bin .add (.var 10) (.k (.int 1))))
    .nil))
    .nil)) .nil)
    (.cons (.ret (.tup (.cons (.var 9) (.cons (.var 10) .nil))))
    .nil))))))⟩
/-- _law_spoken -/
def fn33 : Fn := ⟨3, 8, [0, 1, 2],
    (.cons (.asg (.nm 3) (.idx (.var 0) (.k (.int 0))))
    (.cons (.asg (.nm 4) (.lc [5] (.nm 5) (.r1 (.idx (.var 2) (.k (.int 1)))) .nil (.bin .fdiv (.bin .add (.idx (.var 1) (.k (.int 0))) (.var 5)) (.var 3))))
    (.cons (.asg (.nm 6) (.lc [5] (.nm 5) (.r1 (.idx (.var 2) (.k (.int 2)))) .nil (.bin .fdiv (.bin .add (.idx (.var 1) (.k (.int 1))) (.var 5)) (.var 3))))
    (.cons (.if_ (.or (.cmp .eq (.var 4) (.lst .nil)) (.or (.cmp .eq (.var 6) (.lst .nil)) (.one (.cmp .eq (.idx (.var 4) (.k (.int 0))) (.idx (.var 6) (.k (.int 0))))))) (.cons (.ret (.tup .nil))
    .nil) .nil)
    (.cons (.ret (.ife (.cmp .ne (.lc [7] (.nm 7) (.lk 4) (.cons (.cmp .isIn (.var 7) (.var 6)) .nil) (.var 7)) (.lst .nil)) (.tup (.cons (.k (.str "torn")) .nil)) (.tup (.cons (.k (.str "apart")) (.cons (.k (.str "torn")) .nil)))))
    .nil)))))⟩
/-- _law_laid -/
def fn34 : Fn := ⟨2, 6, [0, 1],
    (.cons (.par [2, 3] (.cons (.lst .nil) (.cons (.tup (.cons (.k (.int 0)) (.cons (.k (.int 0)) .nil))) .nil)))
    (.cons (.for_ (.nm 4) (.lk 1) (.cons (.asg (.nm 5) (.call 32 (.cons (.var 0) (.cons (.var 3) (.cons (.var 4) .nil)))))
    (.cons (.ex (.app 2 (.var 5)))
    (.cons (.asg (.nm 3) (.tup (.cons (.bin .add (.idx (.var 5) (.k (.int 0))) (.idx (.var 4) (.k (.int 1)))) (.cons (.bin .add (.idx (.var 5) (.k (.int 1))) (.idx (.var 4) (.k (.int 2)))) .nil))))
    .nil))))
    (.cons (.ret (.tup (.cons (.var 2) (.cons (.var 3) .nil))))
    .nil)))⟩
/-- _law_spreads -/
def fn35 : Fn := ⟨2, 4, [0, 1],
    (.cons (.asg (.nm 2) (.idx (.call 34 (.cons (.var 0) (.cons (.var 1) .nil))) (.k (.int 1))))
    (.cons (.ret (.bi .len (.cons (.lc [3] (.nm 3) (.r1 (.bi .max (.cons (.var 2) .nil))) (.cons (.cmp .lt (.bin .mul (.var 3) (.idx (.var 0) (.k (.int 0)))) (.bi .max (.cons (.var 2) .nil))) .nil) (.var 3)) .nil)))
    .nil))⟩
/-- law -/
def fn36 : Fn := ⟨1, 16, [0],
    (.cons (.for_ (.nm 1) (.r1 (.bi .max (.cons (.k (.int 1)) (.cons (.bi .min (.cons (.k (.int 12)) (.cons (.bi .len (.cons (.var 0) .nil)) .nil))) .nil)))) (.cons (.asg (.nm 2) (.call 24 (.cons (.var 0) (.cons (.var 1) .nil))))
    (.cons (.asg (.nm 3) (.call 29 (.cons (.var 2) (.cons (.k (.int 5)) (.cons (.k (.int 6)) .nil)))))
    (.cons (.for_ (.nm 4) (.it (.tup (.cons (.call 31 (.cons (.var 2) (.cons (.var 3) (.cons (.k (.int 10)) .nil)))) (.cons (.call 31 (.cons (.var 2) (.cons (.var 3) (.cons (.k (.int 60)) .nil)))) (.cons (.tup .nil) .nil))))) (.cons (.asg (.tp (.cons (.nm 5) (.cons (.nm 6) .nil))) (.call 34 (.cons (.var 3) (.cons (.var 4) .nil))))
    (.cons (.asg (.nm 7) (.call 20 (.cons (.var 3) (.cons (.var 4) .nil))))
    (.cons (.if_ (.or (.cmp .ne (.var 7) (.var 5)) (.or (.not (.isi .list (.var 7))) (.one (.cmp .ne (.call 21 (.cons (.var 3) (.cons (.var 4) .nil))) (.call 35 (.cons (.var 3) (.cons (.var 4) .nil))))))) (.cons (.ret (.k (.bool false)))
    .nil) .nil)
    (.cons (.ex (.app 7 (.tup .nil)))
    (.cons (.asg (.nm 8) (.tup (.cons (.bi .sum (.cons (.lc [9] (.nm 9) (.lk 4) .nil (.idx (.var 9) (.k (.int 1)))) .nil)) (.cons (.bi .sum (.cons (.lc [9] (.nm 9) (.lk 4) .nil (.idx (.var 9) (.k (.int 2)))) .nil)) .nil))))
    (.cons (.asg (.nm 10) (.tup (.cons (.bin .sub (.idx (.var 6) (.k (.int 0))) (.idx (.var 8) (.k (.int 0)))) (.cons (.bin .sub (.idx (.var 6) (.k (.int 1))) (.idx (.var 8) (.k (.int 1)))) .nil))))
    (.cons (.if_ (.or (.cmp .ne (.call 22 (.cons (.var 3) (.cons (.var 4) .nil))) (.var 10)) (.one (.cmp .ne (.call 20 (.cons (.var 3) (.cons (.var 4) .nil))) (.var 5)))) (.cons (.ret (.k (.bool false)))
    .nil) .nil)
    (.cons (.asg (.nm 11) (.lst .nil))
    (.cons (.for_ (.tp (.cons (.nm 12) (.cons (.nm 9) .nil))) (.enum (.var 4)) (.cons (.asg (.nm 11) (.bin .add (.var 11) (.lc [13] (.nm 13) (.it (.call 33 (.cons (.var 3) (.cons (.idx (.var 5) (.var 12)) (.cons (.var 9) .nil))))) .nil (.tup (.cons (.var 12) (.cons (.var 13) .nil))))))
    .nil))
    (.cons (.if_ (.cmp .ne (.call 23 (.cons (.var 3) (.cons (.var 4) .nil))) (.var 11)) (.cons (.ret (.k (.bool false)))
    .nil) .nil)
    .nil)))))))))))
    (.cons (.forf 14 [20, 21, 22, 23] (.cons (.for_ (.nm 15) (.it (.lst (.cons (.k .none) (.cons (.lst .nil) (.cons (.tup (.cons (.k (.str "a")) (.cons (.k (.int 1)) (.cons (.k (.int 2)) .nil)))) (.cons (.tup (.cons (.tup (.cons (.k (.str "zz")) (.cons (.k (.int 1)) (.cons (.k (.int 2)) .nil)))) .nil)) (.cons (.tup (.cons (.k .none) .nil)) .nil))))))) (.cons (.if_ (.cmp .ne (.told kindsL (.callv 14 [20, 21, 22, 23] (.cons (.var 3) (.cons (.var 15) .nil)))) (.tup (.cons (.k (.str "InvalidText +")) .nil))) (.cons (.ret (.k (.bool false)))
    .nil) .nil)
    .nil))
    (.cons (.if_ (.cmp .ne (.told kindsL (.callv 14 [20, 21, 22, 23] (.cons (.slc (.var 3) .nil (.cons (.k (.int 3)) .nil)) (.cons (.k .none) .nil)))) (.tup (.cons (.k (.str "InvalidBook +")) .nil))) (.cons (.ret (.k (.bool false)))
    .nil) .nil)
    .nil)))
    .nil)))))
    (.cons (.ret (.k (.bool true)))
    .nil))⟩
def fnsAll : List (Str × Nat) := ([(("is_within" : Str), (3 : Nat)), (("is_name" : Str), (1 : Nat)), (("climbs" : Str), (1 : Nat)), (("is_pair" : Str), (1 : Nat)), (("is_kind" : Str), (1 : Nat)), (("is_book" : Str), (1 : Nat)), (("need_book" : Str), (1 : Nat)), (("all_parts" : Str), (1 : Nat)), (("is_part" : Str), (2 : Nat)), (("are_parts" : Str), (2 : Nat)), (("need_text" : Str), (2 : Nat)), (("kind_named" : Str), (2 : Nat)), (("begun_at" : Str), (3 : Nat)), (("words_at" : Str), (3 : Nat)), (("spreads_to" : Str), (2 : Nat)), (("laid" : Str), (3 : Nat)), (("all_laid" : Str), (2 : Nat)), (("all_laid" : Str), (1002 : Nat)), (("all_broken" : Str), (2 : Nat)), (("count_spreads" : Str), (2 : Nat)), (("begins" : Str), (2 : Nat)), (("spreads" : Str), (2 : Nat)), (("blanks" : Str), (2 : Nat)), (("broken" : Str), (2 : Nat)), (("_law_well" : Str), (2 : Nat)), (("_law_take" : Str), (2 : Nat)), (("_law_any" : Str), (2 : Nat)), (("_law_words_of" : Str), (1 : Nat)), (("_law_pairs" : Str), (2 : Nat)), (("_law_book" : Str), (3 : Nat))] : List (Str × Nat)) ++ ([(("_law_all_parts" : Str), (1 : Nat)), (("_law_text" : Str), (3 : Nat)), (("_law_begin" : Str), (3 : Nat)), (("_law_spoken" : Str), (3 : Nat)), (("_law_laid" : Str), (2 : Nat)), (("_law_spreads" : Str), (2 : Nat)), (("law" : Str), (1 : Nat))] : List (Str × Nat))
def gl : List (Str × D) := [(("LETTERS" : Str), ((.str "abcdefghijklmnopqrstuvwxyz") : D)), (("MOST_PAIRS" : Str), ((.int 6) : D)), (("MOST_DRIFT" : Str), ((.int 4) : D)), (("FIRST" : Str), ((.tuple [(.int 0), (.int 0)]) : D))]
def errs : List Str := [("FaceError" : Str), ("InvalidBook" : Str), ("InvalidText" : Str), ("InvalidPart" : Str), ("InvalidStand" : Str), ("InvalidWord" : Str), ("InvalidSide" : Str), ("InvalidChange" : Str), ("InvalidNumber" : Str), ("InvalidName" : Str), ("InvalidIndex" : Str), ("NoText" : Str), ("Unlike" : Str), ("NothingToUndo" : Str)]
def bl : List Str := [("len" : Str), ("abs" : Str), ("int" : Str), ("str" : Str), ("sum" : Str), ("max" : Str), ("min" : Str), ("tuple" : Str), ("list" : Str), ("all" : Str), ("sorted" : Str), ("isinstance" : Str), ("range" : Str), ("zip" : Str), ("enumerate" : Str), ("bool" : Str), ("ValueError" : Str)]
def N0 : List Str := [("value" : Str), ("low" : Str), ("high" : Str)]
def N1 : List Str := [("value" : Str), ("sign" : Str)]
def N2 : List Str := [("values" : Str), ("one" : Str), ("other" : Str)]
def N3 : List Str := [("value" : Str)]
def N4 : List Str := [("value" : Str), ("pair" : Str)]
def N5 : List Str := [("value" : Str), ("kind" : Str)]
def N6 : List Str := [("book" : Str)]
def N7 : List Str := [("book" : Str), ("found" : Str), ("name" : Str), ("pairs" : Str), ("level" : Str), ("left" : Str), ("right" : Str)]
def N8 : List Str := [("book" : Str), ("value" : Str)]
def N9 : List Str := [("book" : Str), ("value" : Str), ("part" : Str)]
def N10 : List Str := [("book" : Str), ("text" : Str)]
def N11 : List Str := [("book" : Str), ("name" : Str), ("kind" : Str)]
def N12 : List Str := [("book" : Str), ("places" : Str), ("part" : Str), ("height" : Str), ("let" : Str), ("heads" : Str), ("left" : Str), ("right" : Str)]
def N13 : List Str := [("height" : Str), ("places" : Str), ("part" : Str), ("left" : Str), ("right" : Str), ("ends" : Str)]
def N14 : List Str := [("height" : Str), ("places" : Str)]
def N15 : List Str := [("book" : Str), ("places" : Str), ("part" : Str), ("begin" : Str)]
def N16 : List Str := [("book" : Str), ("text" : Str), ("found" : Str), ("places" : Str), ("part" : Str), ("begin" : Str)]
def N17 : List Str := [("book" : Str), ("text" : Str), ("found" : Str), ("places" : Str), ("part" : Str), ("begin" : Str)]
def N18 : List Str := [("book" : Str), ("text" : Str), ("found" : Str), ("index" : Str), ("begin" : Str), ("part" : Str), ("word" : Str)]
def N19 : List Str := [("book" : Str), ("text" : Str)]
def N20 : List Str := [("book" : Str), ("text" : Str)]
def N21 : List Str := [("book" : Str), ("text" : Str)]
def N22 : List Str := [("book" : Str), ("text" : Str), ("left" : Str), ("right" : Str), ("part" : Str)]
def N23 : List Str := [("book" : Str), ("text" : Str)]
def N24 : List Str := [("script" : Str), ("k" : Str), ("cell" : Str), ("one" : Str)]
def N25 : List Str := [("well" : Str), ("many" : Str), ("found" : Str), ("reach" : Str)]
def N26 : List Str := [("well" : Str), ("some" : Str)]
def N27 : List Str := [("well" : Str), ("menus" : Str)]
def N28 : List Str := [("well" : Str), ("room" : Str), ("found" : Str), ("most" : Str), ("turn" : Str), ("pair" : Str)]
def N29 : List Str := [("well" : Str), ("high" : Str), ("room" : Str), ("names" : Str), ("kinds" : Str), ("height" : Str), ("name" : Str), ("pairs" : Str)]
def N30 : List Str := [("book_so" : Str), ("found" : Str), ("name" : Str), ("pairs" : Str), ("level" : Str), ("pair" : Str)]
def N31 : List Str := [("well" : Str), ("book_so" : Str), ("most" : Str), ("every" : Str), ("often" : Str), ("turn" : Str)]
def N32 : List Str := [("book_so" : Str), ("here" : Str), ("part" : Str), ("height" : Str), ("let" : Str), ("heads" : Str), ("kinds" : Str), ("level" : Str), ("kind" : Str), ("left" : Str), ("right" : Str)]
def N33 : List Str := [("book_so" : Str), ("begin" : Str), ("part" : Str), ("height" : Str), ("mine" : Str), ("k" : Str), ("their" : Str), ("one" : Str)]
def N34 : List Str := [("book_so" : Str), ("text_so" : Str), ("found" : Str), ("here" : Str), ("part" : Str), ("begin" : Str)]
def N35 : List Str := [("book_so" : Str), ("text_so" : Str), ("here" : Str), ("spread" : Str)]
def N36 : List Str := [("script" : Str), ("k" : Str), ("well" : Str), ("book" : Str), ("text" : Str), ("due" : Str), ("last" : Str), ("found" : Str), ("lines" : Str), ("part" : Str), ("empty" : Str), ("words" : Str), ("index" : Str), ("word" : Str), ("call_so" : Str), ("bad" : Str)]
def T0 : List FF.FunD := []
def F0 : FF.FunD := evFn (getL T0) fn0
def T1 : List FF.FunD := [F0]
def F1 : FF.FunD := evFn (getL T1) fn1
def T2 : List FF.FunD := [F0, F1]
def F2 : FF.FunD := evFn (getL T2) fn2
def T3 : List FF.FunD := [F0, F1, F2]
def F3 : FF.FunD := evFn (getL T3) fn3
def T4 : List FF.FunD := [F0, F1, F2, F3]
def F4 : FF.FunD := evFn (getL T4) fn4
def T5 : List FF.FunD := [F0, F1, F2, F3, F4]
def F5 : FF.FunD := evFn (getL T5) fn5
def T6 : List FF.FunD := [F0, F1, F2, F3, F4, F5]
def F6 : FF.FunD := evFn (getL T6) fn6
def T7 : List FF.FunD := [F0, F1, F2, F3, F4, F5, F6]
def F7 : FF.FunD := evFn (getL T7) fn7
def T8 : List FF.FunD := [F0, F1, F2, F3, F4, F5, F6, F7]
def F8 : FF.FunD := evFn (getL T8) fn8
def T9 : List FF.FunD := [F0, F1, F2, F3, F4, F5, F6, F7, F8]
def F9 : FF.FunD := evFn (getL T9) fn9
def T10 : List FF.FunD := [F0, F1, F2, F3, F4, F5, F6, F7, F8, F9]
def F10 : FF.FunD := evFn (getL T10) fn10
def T11 : List FF.FunD := [F0, F1, F2, F3, F4, F5, F6, F7, F8, F9, F10]
def F11 : FF.FunD := evFn (getL T11) fn11
def T12 : List FF.FunD := [F0, F1, F2, F3, F4, F5, F6, F7, F8, F9, F10, F11]
def F12 : FF.FunD := evFn (getL T12) fn12
def T13 : List FF.FunD := [F0, F1, F2, F3, F4, F5, F6, F7, F8, F9, F10, F11, F12]
def F13 : FF.FunD := evFn (getL T13) fn13
def T14 : List FF.FunD := [F0, F1, F2, F3, F4, F5, F6, F7, F8, F9, F10, F11, F12, F13]
def F14 : FF.FunD := evFn (getL T14) fn14
def T15 : List FF.FunD := [F0, F1, F2, F3, F4, F5, F6, F7, F8, F9, F10, F11, F12, F13, F14]
def F15 : FF.FunD := evFn (getL T15) fn15
def T16 : List FF.FunD := [F0, F1, F2, F3, F4, F5, F6, F7, F8, F9, F10, F11, F12, F13, F14, F15]
def F16 : FF.FunD := evFn (getL T16) fn16
def T17 : List FF.FunD := [F0, F1, F2, F3, F4, F5, F6, F7, F8, F9, F10, F11, F12, F13, F14, F15, F16]
def F17 : FF.FunD := evFnO (getL T17) 2 3 fn17
def T18 : List FF.FunD := [F0, F1, F2, F3, F4, F5, F6, F7, F8, F9, F10, F11, F12, F13, F14, F15, F16, F17]
def F18 : FF.FunD := evFn (getL T18) fn18
def T19 : List FF.FunD := [F0, F1, F2, F3, F4, F5, F6, F7, F8, F9, F10, F11, F12, F13, F14, F15, F16, F17, F18]
def F19 : FF.FunD := evFn (getL T19) fn19
def T20 : List FF.FunD := [F0, F1, F2, F3, F4, F5, F6, F7, F8, F9, F10, F11, F12, F13, F14, F15, F16, F17, F18, F19]
def F20 : FF.FunD := evFn (getL T20) fn20
def T21 : List FF.FunD := [F0, F1, F2, F3, F4, F5, F6, F7, F8, F9, F10, F11, F12, F13, F14, F15, F16, F17, F18, F19, F20]
def F21 : FF.FunD := evFn (getL T21) fn21
def T22 : List FF.FunD := [F0, F1, F2, F3, F4, F5, F6, F7, F8, F9, F10, F11, F12, F13, F14, F15, F16, F17, F18, F19, F20, F21]
def F22 : FF.FunD := evFn (getL T22) fn22
def T23 : List FF.FunD := [F0, F1, F2, F3, F4, F5, F6, F7, F8, F9, F10, F11, F12, F13, F14, F15, F16, F17, F18, F19, F20, F21, F22]
def F23 : FF.FunD := evFn (getL T23) fn23
def T24 : List FF.FunD := [F0, F1, F2, F3, F4, F5, F6, F7, F8, F9, F10, F11, F12, F13, F14, F15, F16, F17, F18, F19, F20, F21, F22, F23]
def F24 : FF.FunD := evFn (getL T24) fn24
def T25 : List FF.FunD := [F0, F1, F2, F3, F4, F5, F6, F7, F8, F9, F10, F11, F12, F13, F14, F15, F16, F17, F18, F19, F20, F21, F22, F23, F24]
def F25 : FF.FunD := evFn (getL T25) fn25
def T26 : List FF.FunD := [F0, F1, F2, F3, F4, F5, F6, F7, F8, F9, F10, F11, F12, F13, F14, F15, F16, F17, F18, F19, F20, F21, F22, F23, F24, F25]
def F26 : FF.FunD := evFn (getL T26) fn26
def T27 : List FF.FunD := [F0, F1, F2, F3, F4, F5, F6, F7, F8, F9, F10, F11, F12, F13, F14, F15, F16, F17, F18, F19, F20, F21, F22, F23, F24, F25, F26]
def F27 : FF.FunD := evFn (getL T27) fn27
def T28 : List FF.FunD := [F0, F1, F2, F3, F4, F5, F6, F7, F8, F9, F10, F11, F12, F13, F14, F15, F16, F17, F18, F19, F20, F21, F22, F23, F24, F25, F26, F27]
def F28 : FF.FunD := evFn (getL T28) fn28
def T29 : List FF.FunD := [F0, F1, F2, F3, F4, F5, F6, F7, F8, F9, F10, F11, F12, F13, F14, F15, F16, F17, F18, F19, F20, F21, F22, F23, F24, F25, F26, F27, F28]
def F29 : FF.FunD := evFn (getL T29) fn29
def T30 : List FF.FunD := [F0, F1, F2, F3, F4, F5, F6, F7, F8, F9, F10, F11, F12, F13, F14, F15, F16, F17, F18, F19, F20, F21, F22, F23, F24, F25, F26, F27, F28, F29]
def F30 : FF.FunD := evFn (getL T30) fn30
def T31 : List FF.FunD := [F0, F1, F2, F3, F4, F5, F6, F7, F8, F9, F10, F11, F12, F13, F14, F15, F16, F17, F18, F19, F20, F21, F22, F23, F24, F25, F26, F27, F28, F29, F30]
def F31 : FF.FunD := evFn (getL T31) fn31
def T32 : List FF.FunD := [F0, F1, F2, F3, F4, F5, F6, F7, F8, F9, F10, F11, F12, F13, F14, F15, F16, F17, F18, F19, F20, F21, F22, F23, F24, F25, F26, F27, F28, F29, F30, F31]
def F32 : FF.FunD := evFn (getL T32) fn32
def T33 : List FF.FunD := [F0, F1, F2, F3, F4, F5, F6, F7, F8, F9, F10, F11, F12, F13, F14, F15, F16, F17, F18, F19, F20, F21, F22, F23, F24, F25, F26, F27, F28, F29, F30, F31, F32]
def F33 : FF.FunD := evFn (getL T33) fn33
def T34 : List FF.FunD := [F0, F1, F2, F3, F4, F5, F6, F7, F8, F9, F10, F11, F12, F13, F14, F15, F16, F17, F18, F19, F20, F21, F22, F23, F24, F25, F26, F27, F28, F29, F30, F31, F32, F33]
def F34 : FF.FunD := evFn (getL T34) fn34
def T35 : List FF.FunD := [F0, F1, F2, F3, F4, F5, F6, F7, F8, F9, F10, F11, F12, F13, F14, F15, F16, F17, F18, F19, F20, F21, F22, F23, F24, F25, F26, F27, F28, F29, F30, F31, F32, F33, F34]
def F35 : FF.FunD := evFn (getL T35) fn35
def T36 : List FF.FunD := [F0, F1, F2, F3, F4, F5, F6, F7, F8, F9, F10, F11, F12, F13, F14, F15, F16, F17, F18, F19, F20, F21, F22, F23, F24, F25, F26, F27, F28, F29, F30, F31, F32, F33, F34, F35]
def F36 : FF.FunD := evFn (getL T36) fn36
def T37 : List FF.FunD := [F0, F1, F2, F3, F4, F5, F6, F7, F8, F9, F10, F11, F12, F13, F14, F15, F16, F17, F18, F19, F20, F21, F22, F23, F24, F25, F26, F27, F28, F29, F30, F31, F32, F33, F34, F35, F36]
def names : List Str := ([("is_within" : Str), ("is_name" : Str), ("climbs" : Str), ("is_pair" : Str), ("is_kind" : Str), ("is_book" : Str), ("need_book" : Str), ("all_parts" : Str), ("is_part" : Str), ("are_parts" : Str), ("need_text" : Str), ("kind_named" : Str), ("begun_at" : Str), ("words_at" : Str), ("spreads_to" : Str), ("laid" : Str), ("all_laid" : Str), ("all_broken" : Str), ("count_spreads" : Str), ("begins" : Str), ("spreads" : Str), ("blanks" : Str), ("broken" : Str), ("_law_well" : Str), ("_law_take" : Str), ("_law_any" : Str), ("_law_words_of" : Str), ("_law_pairs" : Str), ("_law_book" : Str), ("_law_all_parts" : Str)] : List Str) ++ ([("_law_text" : Str), ("_law_begin" : Str), ("_law_spoken" : Str), ("_law_laid" : Str), ("_law_spreads" : Str), ("law" : Str), ("_law_call" : Str), ("_law_kinds" : Str), ("FaceError" : Str), ("InvalidBook" : Str), ("InvalidChange" : Str), ("InvalidIndex" : Str), ("InvalidName" : Str), ("InvalidNumber" : Str), ("InvalidPart" : Str), ("InvalidSide" : Str), ("InvalidStand" : Str), ("InvalidText" : Str), ("InvalidWord" : Str), ("NoText" : Str), ("NothingToUndo" : Str), ("TooMany" : Str), ("Unlike" : Str)] : List Str)
def kBs : List (List Bool) := [[false, false, false, false, false, false, false, false, false, false, false, false, false, false], [true, false, false, false, false, false, false, false, false, false, false, false, false, false], [false, false, false, false, false, false, false, false, true, false, false, false, false, false], [false, false, false, false, false, true, false, false, false, false, false, false, false, false], [false, false, false, false, false, false, false, true, false, false, false, false, false, false], [false, false, false, false, false, false, false, false, false, true, false, false, false, false], [false, false, false, false, false, false, true, false, false, false, false, false, false, false], [false, true, false, false, false, false, false, false, false, false, false, false, false, false], [false, false, false, false, true, false, false, false, false, false, false, false, false, false], [false, false, false, true, false, false, false, false, false, false, false, false, false, false], [false, false, true, false, false, false, false, false, false, false, false, false, false, false], [false, false, false, false, false, false, false, false, false, false, true, false, false, false], [false, false, false, false, false, false, false, false, false, false, false, false, false, true], [false, false, false, false, false, false, false, false, false, false, false, true, false, false]]
theorem ksOk : kBs.map kWords = kindsL := by decide +kernel
def fs : List He.Fa := mkFs names bl errs
def d_is_within : He.DefD := ⟨(("is_within" : Str), none), ("is_within" : Str), ("is_within" : Str), defArgs (top 20), defBody (top 20), defScope (top 20), [], []⟩
def d_is_name : He.DefD := ⟨(("is_name" : Str), none), ("is_name" : Str), ("is_name" : Str), defArgs (top 21), defBody (top 21), defScope (top 21), [], []⟩
def d_climbs : He.DefD := ⟨(("climbs" : Str), none), ("climbs" : Str), ("climbs" : Str), defArgs (top 22), defBody (top 22), defScope (top 22), [], []⟩
def d_is_pair : He.DefD := ⟨(("is_pair" : Str), none), ("is_pair" : Str), ("is_pair" : Str), defArgs (top 23), defBody (top 23), defScope (top 23), [], []⟩
def d_is_kind : He.DefD := ⟨(("is_kind" : Str), none), ("is_kind" : Str), ("is_kind" : Str), defArgs (top 24), defBody (top 24), defScope (top 24), [], []⟩
def d_is_book : He.DefD := ⟨(("is_book" : Str), none), ("is_book" : Str), ("is_book" : Str), defArgs (top 25), defBody (top 25), defScope (top 25), [], []⟩
def d_need_book : He.DefD := ⟨(("need_book" : Str), none), ("need_book" : Str), ("need_book" : Str), defArgs (top 26), defBody (top 26), defScope (top 26), [], []⟩
def d_all_parts : He.DefD := ⟨(("all_parts" : Str), none), ("all_parts" : Str), ("all_parts" : Str), defArgs (top 27), defBody (top 27), defScope (top 27), [], []⟩
def d_is_part : He.DefD := ⟨(("is_part" : Str), none), ("is_part" : Str), ("is_part" : Str), defArgs (top 28), defBody (top 28), defScope (top 28), [], []⟩
def d_are_parts : He.DefD := ⟨(("are_parts" : Str), none), ("are_parts" : Str), ("are_parts" : Str), defArgs (top 29), defBody (top 29), defScope (top 29), [], []⟩
def d_need_text : He.DefD := ⟨(("need_text" : Str), none), ("need_text" : Str), ("need_text" : Str), defArgs (top 30), defBody (top 30), defScope (top 30), [], []⟩
def d_kind_named : He.DefD := ⟨(("kind_named" : Str), none), ("kind_named" : Str), ("kind_named" : Str), defArgs (top 31), defBody (top 31), defScope (top 31), [], []⟩
def d_begun_at : He.DefD := ⟨(("begun_at" : Str), none), ("begun_at" : Str), ("begun_at" : Str), defArgs (top 34), defBody (top 34), defScope (top 34), [], []⟩
def d_words_at : He.DefD := ⟨(("words_at" : Str), none), ("words_at" : Str), ("words_at" : Str), defArgs (top 35), defBody (top 35), defScope (top 35), [], []⟩
def d_spreads_to : He.DefD := ⟨(("spreads_to" : Str), none), ("spreads_to" : Str), ("spreads_to" : Str), defArgs (top 36), defBody (top 36), defScope (top 36), [], []⟩
def d_laid : He.DefD := ⟨(("laid" : Str), none), ("laid" : Str), ("laid" : Str), defArgs (top 37), defBody (top 37), defScope (top 37), [], []⟩
def d_all_laid : He.DefD := ⟨(("all_laid" : Str), none), ("all_laid" : Str), ("all_laid" : Str), defArgs (top 38), defBody (top 38), defScope (top 38), [], []⟩
def d_all_broken : He.DefD := ⟨(("all_broken" : Str), none), ("all_broken" : Str), ("all_broken" : Str), defArgs (top 39), defBody (top 39), defScope (top 39), [], []⟩
def d_count_spreads : He.DefD := ⟨(("count_spreads" : Str), none), ("count_spreads" : Str), ("count_spreads" : Str), defArgs (top 40), defBody (top 40), defScope (top 40), [], []⟩
def d_begins : He.DefD := ⟨(("begins" : Str), none), ("begins" : Str), ("begins" : Str), defArgs (top 41), defBody (top 41), defScope (top 41), [], []⟩
def d_spreads : He.DefD := ⟨(("spreads" : Str), none), ("spreads" : Str), ("spreads" : Str), defArgs (top 42), defBody (top 42), defScope (top 42), [], []⟩
def d_blanks : He.DefD := ⟨(("blanks" : Str), none), ("blanks" : Str), ("blanks" : Str), defArgs (top 43), defBody (top 43), defScope (top 43), [], []⟩
def d_broken : He.DefD := ⟨(("broken" : Str), none), ("broken" : Str), ("broken" : Str), defArgs (top 44), defBody (top 44), defScope (top 44), [], []⟩
def d_law_well : He.DefD := ⟨(("_law_well" : Str), none), ("_law_well" : Str), ("_law_well" : Str), defArgs (top 46), defBody (top 46), defScope (top 46), [], []⟩
def d_law_take : He.DefD := ⟨(("_law_take" : Str), none), ("_law_take" : Str), ("_law_take" : Str), defArgs (top 47), defBody (top 47), defScope (top 47), [], []⟩
def d_law_any : He.DefD := ⟨(("_law_any" : Str), none), ("_law_any" : Str), ("_law_any" : Str), defArgs (top 48), defBody (top 48), defScope (top 48), [], []⟩
def d_law_words_of : He.DefD := ⟨(("_law_words_of" : Str), none), ("_law_words_of" : Str), ("_law_words_of" : Str), defArgs (top 49), defBody (top 49), defScope (top 49), [], []⟩
def d_law_pairs : He.DefD := ⟨(("_law_pairs" : Str), none), ("_law_pairs" : Str), ("_law_pairs" : Str), defArgs (top 50), defBody (top 50), defScope (top 50), [], []⟩
def d_law_book : He.DefD := ⟨(("_law_book" : Str), none), ("_law_book" : Str), ("_law_book" : Str), defArgs (top 51), defBody (top 51), defScope (top 51), [], []⟩
def d_law_all_parts : He.DefD := ⟨(("_law_all_parts" : Str), none), ("_law_all_parts" : Str), ("_law_all_parts" : Str), defArgs (top 52), defBody (top 52), defScope (top 52), [], []⟩
def d_law_text : He.DefD := ⟨(("_law_text" : Str), none), ("_law_text" : Str), ("_law_text" : Str), defArgs (top 53), defBody (top 53), defScope (top 53), [], []⟩
def d_law_begin : He.DefD := ⟨(("_law_begin" : Str), none), ("_law_begin" : Str), ("_law_begin" : Str), defArgs (top 54), defBody (top 54), defScope (top 54), [], []⟩
def d_law_spoken : He.DefD := ⟨(("_law_spoken" : Str), none), ("_law_spoken" : Str), ("_law_spoken" : Str), defArgs (top 55), defBody (top 55), defScope (top 55), [], []⟩
def d_law_laid : He.DefD := ⟨(("_law_laid" : Str), none), ("_law_laid" : Str), ("_law_laid" : Str), defArgs (top 56), defBody (top 56), defScope (top 56), [], []⟩
def d_law_spreads : He.DefD := ⟨(("_law_spreads" : Str), none), ("_law_spreads" : Str), ("_law_spreads" : Str), defArgs (top 57), defBody (top 57), defScope (top 57), [], []⟩
def d_law_kinds : He.DefD := ⟨(("_law_kinds" : Str), none), ("_law_kinds" : Str), ("_law_kinds" : Str), defArgs (top 58), defBody (top 58), defScope (top 58), [], []⟩
def d_law_call : He.DefD := ⟨(("_law_call" : Str), none), ("_law_call" : Str), ("_law_call" : Str), defArgs (top 59), defBody (top 59), defScope (top 59), [], []⟩
def d_law : He.DefD := ⟨(("law" : Str), none), ("law" : Str), ("law" : Str), defArgs (top 60), defBody (top 60), defScope (top 60), [], []⟩
def dfs : List He.DefD := ([d_is_within, d_is_name, d_climbs, d_is_pair, d_is_kind, d_is_book, d_need_book, d_all_parts, d_is_part, d_are_parts, d_need_text, d_kind_named, d_begun_at, d_words_at, d_spreads_to, d_laid, d_all_laid, d_all_broken, d_count_spreads, d_begins, d_spreads, d_blanks, d_broken, d_law_well, d_law_take, d_law_any, d_law_words_of, d_law_pairs, d_law_book, d_law_all_parts] : List He.DefD) ++ ([d_law_text, d_law_begin, d_law_spoken, d_law_laid, d_law_spreads, d_law_kinds, d_law_call, d_law] : List He.DefD)
section
variable {P : Program} {w : World} {K : PySem.W.Frag} {mg : Str → Option Value} {base : Heap} {xa : Nat → Addr} {tb : Addr}
theorem sc0 : FnScope N0 [("value" : Str), ("low" : Str), ("high" : Str)] (defScope (top 20)) := ⟨rfl, rfl, rfl, by decide +kernel, rfl, by decide +kernel, by decide +kernel⟩
theorem ok0 : okSs (ctxOf N0 (defScope (top 20)) (fnsAll.take 0) gl errs bl fn0) fn0.body (defBody (top 20)) = true := by decide +kernel
theorem a0 (h : FnsOk P w K mg base xa tb fnsAll 0 T0) (M : Md K mg xa bl gl errs w) {fd : FuncData} (F : L2.FunD K ("is_within" : Str) ("is_within" : Str) (defArgs (top 20)) (defBody (top 20)) (defScope (top 20)) [] [] (He.ga K ("is_within" : Str)) fd) (g : mg ("is_within" : Str) = some (.ref (He.ga K ("is_within" : Str)))) : FnsOk P w K mg base xa tb fnsAll 1 T1 :=
  h.step M rfl F sc0 (fun _ _ _ _ _ _ us hl => match us, hl with | [_, _, _], _ => rfl) (by decide +kernel) ok0 g
theorem sc1 : FnScope N1 [("value" : Str)] (defScope (top 21)) := ⟨rfl, rfl, rfl, by decide +kernel, rfl, by decide +kernel, by decide +kernel⟩
theorem ok1 : okSs (ctxOf N1 (defScope (top 21)) (fnsAll.take 1) gl errs bl fn1) fn1.body (defBody (top 21)) = true := by decide +kernel
theorem a1 (h : FnsOk P w K mg base xa tb fnsAll 1 T1) (M : Md K mg xa bl gl errs w) {fd : FuncData} (F : L2.FunD K ("is_name" : Str) ("is_name" : Str) (defArgs (top 21)) (defBody (top 21)) (defScope (top 21)) [] [] (He.ga K ("is_name" : Str)) fd) (g : mg ("is_name" : Str) = some (.ref (He.ga K ("is_name" : Str)))) : FnsOk P w K mg base xa tb fnsAll 2 T2 :=
  h.step M rfl F sc1 (fun _ _ _ _ _ _ us hl => match us, hl with | [_], _ => rfl) (by decide +kernel) ok1 g
theorem sc2 : FnScope N2 [("values" : Str)] (defScope (top 22)) := ⟨rfl, rfl, rfl, by decide +kernel, rfl, by decide +kernel, by decide +kernel⟩
theorem ok2 : okSs (ctxOf N2 (defScope (top 22)) (fnsAll.take 2) gl errs bl fn2) fn2.body (defBody (top 22)) = true := by decide +kernel
theorem a2 (h : FnsOk P w K mg base xa tb fnsAll 2 T2) (M : Md K mg xa bl gl errs w) {fd : FuncData} (F : L2.FunD K ("climbs" : Str) ("climbs" : Str) (defArgs (top 22)) (defBody (top 22)) (defScope (top 22)) [] [] (He.ga K ("climbs" : Str)) fd) (g : mg ("climbs" : Str) = some (.ref (He.ga K ("climbs" : Str)))) : FnsOk P w K mg base xa tb fnsAll 3 T3 :=
  h.step M rfl F sc2 (fun _ _ _ _ _ _ us hl => match us, hl with | [_], _ => rfl) (by decide +kernel) ok2 g
theorem sc3 : FnScope N3 [("value" : Str)] (defScope (top 23)) := ⟨rfl, rfl, rfl, by decide +kernel, rfl, by decide +kernel, by decide +kernel⟩
theorem ok3 : okSs (ctxOf N3 (defScope (top 23)) (fnsAll.take 3) gl errs bl fn3) fn3.body (defBody (top 23)) = true := by decide +kernel
theorem a3 (h : FnsOk P w K mg base xa tb fnsAll 3 T3) (M : Md K mg xa bl gl errs w) {fd : FuncData} (F : L2.FunD K ("is_pair" : Str) ("is_pair" : Str) (defArgs (top 23)) (defBody (top 23)) (defScope (top 23)) [] [] (He.ga K ("is_pair" : Str)) fd) (g : mg ("is_pair" : Str) = some (.ref (He.ga K ("is_pair" : Str)))) : FnsOk P w K mg base xa tb fnsAll 4 T4 :=
  h.step M rfl F sc3 (fun _ _ _ _ _ _ us hl => match us, hl with | [_], _ => rfl) (by decide +kernel) ok3 g
theorem sc4 : FnScope N4 [("value" : Str)] (defScope (top 24)) := ⟨rfl, rfl, rfl, by decide +kernel, rfl, by decide +kernel, by decide +kernel⟩
theorem ok4 : okSs (ctxOf N4 (defScope (top 24)) (fnsAll.take 4) gl errs bl fn4) fn4.body (defBody (top 24)) = true := by decide +kernel
theorem a4 (h : FnsOk P w K mg base xa tb fnsAll 4 T4) (M : Md K mg xa bl gl errs w) {fd : FuncData} (F : L2.FunD K ("is_kind" : Str) ("is_kind" : Str) (defArgs (top 24)) (defBody (top 24)) (defScope (top 24)) [] [] (He.ga K ("is_kind" : Str)) fd) (g : mg ("is_kind" : Str) = some (.ref (He.ga K ("is_kind" : Str)))) : FnsOk P w K mg base xa tb fnsAll 5 T5 :=
  h.step M rfl F sc4 (fun _ _ _ _ _ _ us hl => match us, hl with | [_], _ => rfl) (by decide +kernel) ok4 g
theorem sc5 : FnScope N5 [("value" : Str)] (defScope (top 25)) := ⟨rfl, rfl, rfl, by decide +kernel, rfl, by decide +kernel, by decide +kernel⟩
theorem ok5 : okSs (ctxOf N5 (defScope (top 25)) (fnsAll.take 5) gl errs bl fn5) fn5.body (defBody (top 25)) = true := by decide +kernel
theorem a5 (h : FnsOk P w K mg base xa tb fnsAll 5 T5) (M : Md K mg xa bl gl errs w) {fd : FuncData} (F : L2.FunD K ("is_book" : Str) ("is_book" : Str) (defArgs (top 25)) (defBody (top 25)) (defScope (top 25)) [] [] (He.ga K ("is_book" : Str)) fd) (g : mg ("is_book" : Str) = some (.ref (He.ga K ("is_book" : Str)))) : FnsOk P w K mg base xa tb fnsAll 6 T6 :=
  h.step M rfl F sc5 (fun _ _ _ _ _ _ us hl => match us, hl with | [_], _ => rfl) (by decide +kernel) ok5 g
theorem sc6 : FnScope N6 [("book" : Str)] (defScope (top 26)) := ⟨rfl, rfl, rfl, by decide +kernel, rfl, by decide +kernel, by decide +kernel⟩
theorem ok6 : okSs (ctxOf N6 (defScope (top 26)) (fnsAll.take 6) gl errs bl fn6) fn6.body (defBody (top 26)) = true := by decide +kernel
theorem a6 (h : FnsOk P w K mg base xa tb fnsAll 6 T6) (M : Md K mg xa bl gl errs w) {fd : FuncData} (F : L2.FunD K ("need_book" : Str) ("need_book" : Str) (defArgs (top 26)) (defBody (top 26)) (defScope (top 26)) [] [] (He.ga K ("need_book" : Str)) fd) (g : mg ("need_book" : Str) = some (.ref (He.ga K ("need_book" : Str)))) : FnsOk P w K mg base xa tb fnsAll 7 T7 :=
  h.step M rfl F sc6 (fun _ _ _ _ _ _ us hl => match us, hl with | [_], _ => rfl) (by decide +kernel) ok6 g
theorem sc7 : FnScope N7 [("book" : Str)] (defScope (top 27)) := ⟨rfl, rfl, rfl, by decide +kernel, rfl, by decide +kernel, by decide +kernel⟩
theorem ok7 : okSs (ctxOf N7 (defScope (top 27)) (fnsAll.take 7) gl errs bl fn7) fn7.body (defBody (top 27)) = true := by decide +kernel
theorem a7 (h : FnsOk P w K mg base xa tb fnsAll 7 T7) (M : Md K mg xa bl gl errs w) {fd : FuncData} (F : L2.FunD K ("all_parts" : Str) ("all_parts" : Str) (defArgs (top 27)) (defBody (top 27)) (defScope (top 27)) [] [] (He.ga K ("all_parts" : Str)) fd) (g : mg ("all_parts" : Str) = some (.ref (He.ga K ("all_parts" : Str)))) : FnsOk P w K mg base xa tb fnsAll 8 T8 :=
  h.step M rfl F sc7 (fun _ _ _ _ _ _ us hl => match us, hl with | [_], _ => rfl) (by decide +kernel) ok7 g
theorem sc8 : FnScope N8 [("book" : Str), ("value" : Str)] (defScope (top 28)) := ⟨rfl, rfl, rfl, by decide +kernel, rfl, by decide +kernel, by decide +kernel⟩
theorem ok8 : okSs (ctxOf N8 (defScope (top 28)) (fnsAll.take 8) gl errs bl fn8) fn8.body (defBody (top 28)) = true := by decide +kernel
theorem a8 (h : FnsOk P w K mg base xa tb fnsAll 8 T8) (M : Md K mg xa bl gl errs w) {fd : FuncData} (F : L2.FunD K ("is_part" : Str) ("is_part" : Str) (defArgs (top 28)) (defBody (top 28)) (defScope (top 28)) [] [] (He.ga K ("is_part" : Str)) fd) (g : mg ("is_part" : Str) = some (.ref (He.ga K ("is_part" : Str)))) : FnsOk P w K mg base xa tb fnsAll 9 T9 :=
  h.step M rfl F sc8 (fun _ _ _ _ _ _ us hl => match us, hl with | [_, _], _ => rfl) (by decide +kernel) ok8 g
theorem sc9 : FnScope N9 [("book" : Str), ("value" : Str)] (defScope (top 29)) := ⟨rfl, rfl, rfl, by decide +kernel, rfl, by decide +kernel, by decide +kernel⟩
theorem ok9 : okSs (ctxOf N9 (defScope (top 29)) (fnsAll.take 9) gl errs bl fn9) fn9.body (defBody (top 29)) = true := by decide +kernel
theorem a9 (h : FnsOk P w K mg base xa tb fnsAll 9 T9) (M : Md K mg xa bl gl errs w) {fd : FuncData} (F : L2.FunD K ("are_parts" : Str) ("are_parts" : Str) (defArgs (top 29)) (defBody (top 29)) (defScope (top 29)) [] [] (He.ga K ("are_parts" : Str)) fd) (g : mg ("are_parts" : Str) = some (.ref (He.ga K ("are_parts" : Str)))) : FnsOk P w K mg base xa tb fnsAll 10 T10 :=
  h.step M rfl F sc9 (fun _ _ _ _ _ _ us hl => match us, hl with | [_, _], _ => rfl) (by decide +kernel) ok9 g
theorem sc10 : FnScope N10 [("book" : Str), ("text" : Str)] (defScope (top 30)) := ⟨rfl, rfl, rfl, by decide +kernel, rfl, by decide +kernel, by decide +kernel⟩
theorem ok10 : okSs (ctxOf N10 (defScope (top 30)) (fnsAll.take 10) gl errs bl fn10) fn10.body (defBody (top 30)) = true := by decide +kernel
theorem a10 (h : FnsOk P w K mg base xa tb fnsAll 10 T10) (M : Md K mg xa bl gl errs w) {fd : FuncData} (F : L2.FunD K ("need_text" : Str) ("need_text" : Str) (defArgs (top 30)) (defBody (top 30)) (defScope (top 30)) [] [] (He.ga K ("need_text" : Str)) fd) (g : mg ("need_text" : Str) = some (.ref (He.ga K ("need_text" : Str)))) : FnsOk P w K mg base xa tb fnsAll 11 T11 :=
  h.step M rfl F sc10 (fun _ _ _ _ _ _ us hl => match us, hl with | [_, _], _ => rfl) (by decide +kernel) ok10 g
theorem sc11 : FnScope N11 [("book" : Str), ("name" : Str)] (defScope (top 31)) := ⟨rfl, rfl, rfl, by decide +kernel, rfl, by decide +kernel, by decide +kernel⟩
theorem ok11 : okSs (ctxOf N11 (defScope (top 31)) (fnsAll.take 11) gl errs bl fn11) fn11.body (defBody (top 31)) = true := by decide +kernel
theorem a11 (h : FnsOk P w K mg base xa tb fnsAll 11 T11) (M : Md K mg xa bl gl errs w) {fd : FuncData} (F : L2.FunD K ("kind_named" : Str) ("kind_named" : Str) (defArgs (top 31)) (defBody (top 31)) (defScope (top 31)) [] [] (He.ga K ("kind_named" : Str)) fd) (g : mg ("kind_named" : Str) = some (.ref (He.ga K ("kind_named" : Str)))) : FnsOk P w K mg base xa tb fnsAll 12 T12 :=
  h.step M rfl F sc11 (fun _ _ _ _ _ _ us hl => match us, hl with | [_, _], _ => rfl) (by decide +kernel) ok11 g
theorem sc12 : FnScope N12 [("book" : Str), ("places" : Str), ("part" : Str)] (defScope (top 34)) := ⟨rfl, rfl, rfl, by decide +kernel, rfl, by decide +kernel, by decide +kernel⟩
theorem ok12 : okSs (ctxOf N12 (defScope (top 34)) (fnsAll.take 12) gl errs bl fn12) fn12.body (defBody (top 34)) = true := by decide +kernel
theorem a12 (h : FnsOk P w K mg base xa tb fnsAll 12 T12) (M : Md K mg xa bl gl errs w) {fd : FuncData} (F : L2.FunD K ("begun_at" : Str) ("begun_at" : Str) (defArgs (top 34)) (defBody (top 34)) (defScope (top 34)) [] [] (He.ga K ("begun_at" : Str)) fd) (g : mg ("begun_at" : Str) = some (.ref (He.ga K ("begun_at" : Str)))) : FnsOk P w K mg base xa tb fnsAll 13 T13 :=
  h.step M rfl F sc12 (fun _ _ _ _ _ _ us hl => match us, hl with | [_, _, _], _ => rfl) (by decide +kernel) ok12 g
theorem sc13 : FnScope N13 [("height" : Str), ("places" : Str), ("part" : Str)] (defScope (top 35)) := ⟨rfl, rfl, rfl, by decide +kernel, rfl, by decide +kernel, by decide +kernel⟩
theorem ok13 : okSs (ctxOf N13 (defScope (top 35)) (fnsAll.take 13) gl errs bl fn13) fn13.body (defBody (top 35)) = true := by decide +kernel
theorem a13 (h : FnsOk P w K mg base xa tb fnsAll 13 T13) (M : Md K mg xa bl gl errs w) {fd : FuncData} (F : L2.FunD K ("words_at" : Str) ("words_at" : Str) (defArgs (top 35)) (defBody (top 35)) (defScope (top 35)) [] [] (He.ga K ("words_at" : Str)) fd) (g : mg ("words_at" : Str) = some (.ref (He.ga K ("words_at" : Str)))) : FnsOk P w K mg base xa tb fnsAll 14 T14 :=
  h.step M rfl F sc13 (fun _ _ _ _ _ _ us hl => match us, hl with | [_, _, _], _ => rfl) (by decide +kernel) ok13 g
theorem sc14 : FnScope N14 [("height" : Str), ("places" : Str)] (defScope (top 36)) := ⟨rfl, rfl, rfl, by decide +kernel, rfl, by decide +kernel, by decide +kernel⟩
theorem ok14 : okSs (ctxOf N14 (defScope (top 36)) (fnsAll.take 14) gl errs bl fn14) fn14.body (defBody (top 36)) = true := by decide +kernel
theorem a14 (h : FnsOk P w K mg base xa tb fnsAll 14 T14) (M : Md K mg xa bl gl errs w) {fd : FuncData} (F : L2.FunD K ("spreads_to" : Str) ("spreads_to" : Str) (defArgs (top 36)) (defBody (top 36)) (defScope (top 36)) [] [] (He.ga K ("spreads_to" : Str)) fd) (g : mg ("spreads_to" : Str) = some (.ref (He.ga K ("spreads_to" : Str)))) : FnsOk P w K mg base xa tb fnsAll 15 T15 :=
  h.step M rfl F sc14 (fun _ _ _ _ _ _ us hl => match us, hl with | [_, _], _ => rfl) (by decide +kernel) ok14 g
theorem sc15 : FnScope N15 [("book" : Str), ("places" : Str), ("part" : Str)] (defScope (top 37)) := ⟨rfl, rfl, rfl, by decide +kernel, rfl, by decide +kernel, by decide +kernel⟩
theorem ok15 : okSs (ctxOf N15 (defScope (top 37)) (fnsAll.take 15) gl errs bl fn15) fn15.body (defBody (top 37)) = true := by decide +kernel
theorem a15 (h : FnsOk P w K mg base xa tb fnsAll 15 T15) (M : Md K mg xa bl gl errs w) {fd : FuncData} (F : L2.FunD K ("laid" : Str) ("laid" : Str) (defArgs (top 37)) (defBody (top 37)) (defScope (top 37)) [] [] (He.ga K ("laid" : Str)) fd) (g : mg ("laid" : Str) = some (.ref (He.ga K ("laid" : Str)))) : FnsOk P w K mg base xa tb fnsAll 16 T16 :=
  h.step M rfl F sc15 (fun _ _ _ _ _ _ us hl => match us, hl with | [_, _, _], _ => rfl) (by decide +kernel) ok15 g
theorem sc16 : FnScope N16 [("book" : Str), ("text" : Str)] (defScope (top 38)) := ⟨rfl, rfl, rfl, by decide +kernel, rfl, by decide +kernel, by decide +kernel⟩
theorem ok16 : okSs (ctxOf N16 (defScope (top 38)) (fnsAll.take 16) gl errs bl fn16) fn16.body (defBody (top 38)) = true := by decide +kernel
theorem a16 (h : FnsOk P w K mg base xa tb fnsAll 16 T16) (M : Md K mg xa bl gl errs w) {fd : FuncData} (F : L2.FunD K ("all_laid" : Str) ("all_laid" : Str) (defArgs (top 38)) (defBody (top 38)) (defScope (top 38)) [] [] (He.ga K ("all_laid" : Str)) fd) (g : mg ("all_laid" : Str) = some (.ref (He.ga K ("all_laid" : Str)))) : FnsOk P w K mg base xa tb fnsAll 17 T17 :=
  h.step M rfl F sc16 (fun _ _ _ _ _ _ us hl => match us, hl with | [_, _], _ => rfl) (by decide +kernel) ok16 g
theorem sc17 : FnScope N17 [("book" : Str), ("text" : Str)] (defScope (top 38)) := ⟨rfl, rfl, rfl, by decide +kernel, rfl, by decide +kernel, by decide +kernel⟩
theorem ok17 : okSsO (ctxOf N17 (defScope (top 38)) (fnsAll.take 17) gl errs bl fn17) 2 3 fn17.body (defBody (top 38)) = true := by decide +kernel
theorem a17 (h : FnsOk P w K mg base xa tb fnsAll 17 T17) (M : Md K mg xa bl gl errs w) {fd : FuncData} (F : L2.FunD K ("all_laid" : Str) ("all_laid" : Str) (defArgs (top 38)) (defBody (top 38)) (defScope (top 38)) [] [] (He.ga K ("all_laid" : Str)) fd) (g : mg ("all_laid" : Str) = some (.ref (He.ga K ("all_laid" : Str)))) : FnsOk P w K mg base xa tb fnsAll 18 T18 :=
  h.stepO M rfl F sc17 (fun _ _ _ _ _ _ us hl => match us, hl with | [_, _], _ => rfl) (by decide +kernel) ok17 g
theorem sc18 : FnScope N18 [("book" : Str), ("text" : Str)] (defScope (top 39)) := ⟨rfl, rfl, rfl, by decide +kernel, rfl, by decide +kernel, by decide +kernel⟩
theorem ok18 : okSs (ctxOf N18 (defScope (top 39)) (fnsAll.take 18) gl errs bl fn18) fn18.body (defBody (top 39)) = true := by decide +kernel
theorem a18 (h : FnsOk P w K mg base xa tb fnsAll 18 T18) (M : Md K mg xa bl gl errs w) {fd : FuncData} (F : L2.FunD K ("all_broken" : Str) ("all_broken" : Str) (defArgs (top 39)) (defBody (top 39)) (defScope (top 39)) [] [] (He.ga K ("all_broken" : Str)) fd) (g : mg ("all_broken" : Str) = some (.ref (He.ga K ("all_broken" : Str)))) : FnsOk P w K mg base xa tb fnsAll 19 T19 :=
  h.step M rfl F sc18 (fun _ _ _ _ _ _ us hl => match us, hl with | [_, _], _ => rfl) (by decide +kernel) ok18 g
theorem sc19 : FnScope N19 [("book" : Str), ("text" : Str)] (defScope (top 40)) := ⟨rfl, rfl, rfl, by decide +kernel, rfl, by decide +kernel, by decide +kernel⟩
theorem ok19 : okSs (ctxOf N19 (defScope (top 40)) (fnsAll.take 19) gl errs bl fn19) fn19.body (defBody (top 40)) = true := by decide +kernel
theorem a19 (h : FnsOk P w K mg base xa tb fnsAll 19 T19) (M : Md K mg xa bl gl errs w) {fd : FuncData} (F : L2.FunD K ("count_spreads" : Str) ("count_spreads" : Str) (defArgs (top 40)) (defBody (top 40)) (defScope (top 40)) [] [] (He.ga K ("count_spreads" : Str)) fd) (g : mg ("count_spreads" : Str) = some (.ref (He.ga K ("count_spreads" : Str)))) : FnsOk P w K mg base xa tb fnsAll 20 T20 :=
  h.step M rfl F sc19 (fun _ _ _ _ _ _ us hl => match us, hl with | [_, _], _ => rfl) (by decide +kernel) ok19 g
theorem sc20 : FnScope N20 [("book" : Str), ("text" : Str)] (defScope (top 41)) := ⟨rfl, rfl, rfl, by decide +kernel, rfl, by decide +kernel, by decide +kernel⟩
theorem ok20 : okSs (ctxOf N20 (defScope (top 41)) (fnsAll.take 20) gl errs bl fn20) fn20.body (defBody (top 41)) = true := by decide +kernel
theorem a20 (h : FnsOk P w K mg base xa tb fnsAll 20 T20) (M : Md K mg xa bl gl errs w) {fd : FuncData} (F : L2.FunD K ("begins" : Str) ("begins" : Str) (defArgs (top 41)) (defBody (top 41)) (defScope (top 41)) [] [] (He.ga K ("begins" : Str)) fd) (g : mg ("begins" : Str) = some (.ref (He.ga K ("begins" : Str)))) : FnsOk P w K mg base xa tb fnsAll 21 T21 :=
  h.step M rfl F sc20 (fun _ _ _ _ _ _ us hl => match us, hl with | [_, _], _ => rfl) (by decide +kernel) ok20 g
theorem sc21 : FnScope N21 [("book" : Str), ("text" : Str)] (defScope (top 42)) := ⟨rfl, rfl, rfl, by decide +kernel, rfl, by decide +kernel, by decide +kernel⟩
theorem ok21 : okSs (ctxOf N21 (defScope (top 42)) (fnsAll.take 21) gl errs bl fn21) fn21.body (defBody (top 42)) = true := by decide +kernel
theorem a21 (h : FnsOk P w K mg base xa tb fnsAll 21 T21) (M : Md K mg xa bl gl errs w) {fd : FuncData} (F : L2.FunD K ("spreads" : Str) ("spreads" : Str) (defArgs (top 42)) (defBody (top 42)) (defScope (top 42)) [] [] (He.ga K ("spreads" : Str)) fd) (g : mg ("spreads" : Str) = some (.ref (He.ga K ("spreads" : Str)))) : FnsOk P w K mg base xa tb fnsAll 22 T22 :=
  h.step M rfl F sc21 (fun _ _ _ _ _ _ us hl => match us, hl with | [_, _], _ => rfl) (by decide +kernel) ok21 g
theorem sc22 : FnScope N22 [("book" : Str), ("text" : Str)] (defScope (top 43)) := ⟨rfl, rfl, rfl, by decide +kernel, rfl, by decide +kernel, by decide +kernel⟩
theorem ok22 : okSs (ctxOf N22 (defScope (top 43)) (fnsAll.take 22) gl errs bl fn22) fn22.body (defBody (top 43)) = true := by decide +kernel
theorem a22 (h : FnsOk P w K mg base xa tb fnsAll 22 T22) (M : Md K mg xa bl gl errs w) {fd : FuncData} (F : L2.FunD K ("blanks" : Str) ("blanks" : Str) (defArgs (top 43)) (defBody (top 43)) (defScope (top 43)) [] [] (He.ga K ("blanks" : Str)) fd) (g : mg ("blanks" : Str) = some (.ref (He.ga K ("blanks" : Str)))) : FnsOk P w K mg base xa tb fnsAll 23 T23 :=
  h.step M rfl F sc22 (fun _ _ _ _ _ _ us hl => match us, hl with | [_, _], _ => rfl) (by decide +kernel) ok22 g
theorem sc23 : FnScope N23 [("book" : Str), ("text" : Str)] (defScope (top 44)) := ⟨rfl, rfl, rfl, by decide +kernel, rfl, by decide +kernel, by decide +kernel⟩
theorem ok23 : okSs (ctxOf N23 (defScope (top 44)) (fnsAll.take 23) gl errs bl fn23) fn23.body (defBody (top 44)) = true := by decide +kernel
theorem a23 (h : FnsOk P w K mg base xa tb fnsAll 23 T23) (M : Md K mg xa bl gl errs w) {fd : FuncData} (F : L2.FunD K ("broken" : Str) ("broken" : Str) (defArgs (top 44)) (defBody (top 44)) (defScope (top 44)) [] [] (He.ga K ("broken" : Str)) fd) (g : mg ("broken" : Str) = some (.ref (He.ga K ("broken" : Str)))) : FnsOk P w K mg base xa tb fnsAll 24 T24 :=
  h.step M rfl F sc23 (fun _ _ _ _ _ _ us hl => match us, hl with | [_, _], _ => rfl) (by decide +kernel) ok23 g
theorem sc24 : FnScope N24 [("script" : Str), ("k" : Str)] (defScope (top 46)) := ⟨rfl, rfl, rfl, by decide +kernel, rfl, by decide +kernel, by decide +kernel⟩
theorem ok24 : okSs (ctxOf N24 (defScope (top 46)) (fnsAll.take 24) gl errs bl fn24) fn24.body (defBody (top 46)) = true := by decide +kernel
theorem a24 (h : FnsOk P w K mg base xa tb fnsAll 24 T24) (M : Md K mg xa bl gl errs w) {fd : FuncData} (F : L2.FunD K ("_law_well" : Str) ("_law_well" : Str) (defArgs (top 46)) (defBody (top 46)) (defScope (top 46)) [] [] (He.ga K ("_law_well" : Str)) fd) (g : mg ("_law_well" : Str) = some (.ref (He.ga K ("_law_well" : Str)))) : FnsOk P w K mg base xa tb fnsAll 25 T25 :=
  h.step M rfl F sc24 (fun _ _ _ _ _ _ us hl => match us, hl with | [_, _], _ => rfl) (by decide +kernel) ok24 g
theorem sc25 : FnScope N25 [("well" : Str), ("many" : Str)] (defScope (top 47)) := ⟨rfl, rfl, rfl, by decide +kernel, rfl, by decide +kernel, by decide +kernel⟩
theorem ok25 : okSs (ctxOf N25 (defScope (top 47)) (fnsAll.take 25) gl errs bl fn25) fn25.body (defBody (top 47)) = true := by decide +kernel
theorem a25 (h : FnsOk P w K mg base xa tb fnsAll 25 T25) (M : Md K mg xa bl gl errs w) {fd : FuncData} (F : L2.FunD K ("_law_take" : Str) ("_law_take" : Str) (defArgs (top 47)) (defBody (top 47)) (defScope (top 47)) [] [] (He.ga K ("_law_take" : Str)) fd) (g : mg ("_law_take" : Str) = some (.ref (He.ga K ("_law_take" : Str)))) : FnsOk P w K mg base xa tb fnsAll 26 T26 :=
  h.step M rfl F sc25 (fun _ _ _ _ _ _ us hl => match us, hl with | [_, _], _ => rfl) (by decide +kernel) ok25 g
theorem sc26 : FnScope N26 [("well" : Str), ("some" : Str)] (defScope (top 48)) := ⟨rfl, rfl, rfl, by decide +kernel, rfl, by decide +kernel, by decide +kernel⟩
theorem ok26 : okSs (ctxOf N26 (defScope (top 48)) (fnsAll.take 26) gl errs bl fn26) fn26.body (defBody (top 48)) = true := by decide +kernel
theorem a26 (h : FnsOk P w K mg base xa tb fnsAll 26 T26) (M : Md K mg xa bl gl errs w) {fd : FuncData} (F : L2.FunD K ("_law_any" : Str) ("_law_any" : Str) (defArgs (top 48)) (defBody (top 48)) (defScope (top 48)) [] [] (He.ga K ("_law_any" : Str)) fd) (g : mg ("_law_any" : Str) = some (.ref (He.ga K ("_law_any" : Str)))) : FnsOk P w K mg base xa tb fnsAll 27 T27 :=
  h.step M rfl F sc26 (fun _ _ _ _ _ _ us hl => match us, hl with | [_, _], _ => rfl) (by decide +kernel) ok26 g
theorem sc27 : FnScope N27 [("well" : Str)] (defScope (top 49)) := ⟨rfl, rfl, rfl, by decide +kernel, rfl, by decide +kernel, by decide +kernel⟩
theorem ok27 : okSs (ctxOf N27 (defScope (top 49)) (fnsAll.take 27) gl errs bl fn27) fn27.body (defBody (top 49)) = true := by decide +kernel
theorem a27 (h : FnsOk P w K mg base xa tb fnsAll 27 T27) (M : Md K mg xa bl gl errs w) {fd : FuncData} (F : L2.FunD K ("_law_words_of" : Str) ("_law_words_of" : Str) (defArgs (top 49)) (defBody (top 49)) (defScope (top 49)) [] [] (He.ga K ("_law_words_of" : Str)) fd) (g : mg ("_law_words_of" : Str) = some (.ref (He.ga K ("_law_words_of" : Str)))) : FnsOk P w K mg base xa tb fnsAll 28 T28 :=
  h.step M rfl F sc27 (fun _ _ _ _ _ _ us hl => match us, hl with | [_], _ => rfl) (by decide +kernel) ok27 g
theorem sc28 : FnScope N28 [("well" : Str), ("room" : Str)] (defScope (top 50)) := ⟨rfl, rfl, rfl, by decide +kernel, rfl, by decide +kernel, by decide +kernel⟩
theorem ok28 : okSs (ctxOf N28 (defScope (top 50)) (fnsAll.take 28) gl errs bl fn28) fn28.body (defBody (top 50)) = true := by decide +kernel
theorem a28 (h : FnsOk P w K mg base xa tb fnsAll 28 T28) (M : Md K mg xa bl gl errs w) {fd : FuncData} (F : L2.FunD K ("_law_pairs" : Str) ("_law_pairs" : Str) (defArgs (top 50)) (defBody (top 50)) (defScope (top 50)) [] [] (He.ga K ("_law_pairs" : Str)) fd) (g : mg ("_law_pairs" : Str) = some (.ref (He.ga K ("_law_pairs" : Str)))) : FnsOk P w K mg base xa tb fnsAll 29 T29 :=
  h.step M rfl F sc28 (fun _ _ _ _ _ _ us hl => match us, hl with | [_, _], _ => rfl) (by decide +kernel) ok28 g
theorem sc29 : FnScope N29 [("well" : Str), ("high" : Str), ("room" : Str)] (defScope (top 51)) := ⟨rfl, rfl, rfl, by decide +kernel, rfl, by decide +kernel, by decide +kernel⟩
theorem ok29 : okSs (ctxOf N29 (defScope (top 51)) (fnsAll.take 29) gl errs bl fn29) fn29.body (defBody (top 51)) = true := by decide +kernel
theorem a29 (h : FnsOk P w K mg base xa tb fnsAll 29 T29) (M : Md K mg xa bl gl errs w) {fd : FuncData} (F : L2.FunD K ("_law_book" : Str) ("_law_book" : Str) (defArgs (top 51)) (defBody (top 51)) (defScope (top 51)) [] [] (He.ga K ("_law_book" : Str)) fd) (g : mg ("_law_book" : Str) = some (.ref (He.ga K ("_law_book" : Str)))) : FnsOk P w K mg base xa tb fnsAll 30 T30 :=
  h.step M rfl F sc29 (fun _ _ _ _ _ _ us hl => match us, hl with | [_, _, _], _ => rfl) (by decide +kernel) ok29 g
theorem sc30 : FnScope N30 [("book_so" : Str)] (defScope (top 52)) := ⟨rfl, rfl, rfl, by decide +kernel, rfl, by decide +kernel, by decide +kernel⟩
theorem ok30 : okSs (ctxOf N30 (defScope (top 52)) (fnsAll.take 30) gl errs bl fn30) fn30.body (defBody (top 52)) = true := by decide +kernel
theorem a30 (h : FnsOk P w K mg base xa tb fnsAll 30 T30) (M : Md K mg xa bl gl errs w) {fd : FuncData} (F : L2.FunD K ("_law_all_parts" : Str) ("_law_all_parts" : Str) (defArgs (top 52)) (defBody (top 52)) (defScope (top 52)) [] [] (He.ga K ("_law_all_parts" : Str)) fd) (g : mg ("_law_all_parts" : Str) = some (.ref (He.ga K ("_law_all_parts" : Str)))) : FnsOk P w K mg base xa tb fnsAll 31 T31 :=
  h.step M rfl F sc30 (fun _ _ _ _ _ _ us hl => match us, hl with | [_], _ => rfl) (by decide +kernel) ok30 g
theorem sc31 : FnScope N31 [("well" : Str), ("book_so" : Str), ("most" : Str)] (defScope (top 53)) := ⟨rfl, rfl, rfl, by decide +kernel, rfl, by decide +kernel, by decide +kernel⟩
theorem ok31 : okSs (ctxOf N31 (defScope (top 53)) (fnsAll.take 31) gl errs bl fn31) fn31.body (defBody (top 53)) = true := by decide +kernel
theorem a31 (h : FnsOk P w K mg base xa tb fnsAll 31 T31) (M : Md K mg xa bl gl errs w) {fd : FuncData} (F : L2.FunD K ("_law_text" : Str) ("_law_text" : Str) (defArgs (top 53)) (defBody (top 53)) (defScope (top 53)) [] [] (He.ga K ("_law_text" : Str)) fd) (g : mg ("_law_text" : Str) = some (.ref (He.ga K ("_law_text" : Str)))) : FnsOk P w K mg base xa tb fnsAll 32 T32 :=
  h.step M rfl F sc31 (fun _ _ _ _ _ _ us hl => match us, hl with | [_, _, _], _ => rfl) (by decide +kernel) ok31 g
theorem sc32 : FnScope N32 [("book_so" : Str), ("here" : Str), ("part" : Str)] (defScope (top 54)) := ⟨rfl, rfl, rfl, by decide +kernel, rfl, by decide +kernel, by decide +kernel⟩
theorem ok32 : okSs (ctxOf N32 (defScope (top 54)) (fnsAll.take 32) gl errs bl fn32) fn32.body (defBody (top 54)) = true := by decide +kernel
theorem a32 (h : FnsOk P w K mg base xa tb fnsAll 32 T32) (M : Md K mg xa bl gl errs w) {fd : FuncData} (F : L2.FunD K ("_law_begin" : Str) ("_law_begin" : Str) (defArgs (top 54)) (defBody (top 54)) (defScope (top 54)) [] [] (He.ga K ("_law_begin" : Str)) fd) (g : mg ("_law_begin" : Str) = some (.ref (He.ga K ("_law_begin" : Str)))) : FnsOk P w K mg base xa tb fnsAll 33 T33 :=
  h.step M rfl F sc32 (fun _ _ _ _ _ _ us hl => match us, hl with | [_, _, _], _ => rfl) (by decide +kernel) ok32 g
theorem sc33 : FnScope N33 [("book_so" : Str), ("begin" : Str), ("part" : Str)] (defScope (top 55)) := ⟨rfl, rfl, rfl, by decide +kernel, rfl, by decide +kernel, by decide +kernel⟩
theorem ok33 : okSs (ctxOf N33 (defScope (top 55)) (fnsAll.take 33) gl errs bl fn33) fn33.body (defBody (top 55)) = true := by decide +kernel
theorem a33 (h : FnsOk P w K mg base xa tb fnsAll 33 T33) (M : Md K mg xa bl gl errs w) {fd : FuncData} (F : L2.FunD K ("_law_spoken" : Str) ("_law_spoken" : Str) (defArgs (top 55)) (defBody (top 55)) (defScope (top 55)) [] [] (He.ga K ("_law_spoken" : Str)) fd) (g : mg ("_law_spoken" : Str) = some (.ref (He.ga K ("_law_spoken" : Str)))) : FnsOk P w K mg base xa tb fnsAll 34 T34 :=
  h.step M rfl F sc33 (fun _ _ _ _ _ _ us hl => match us, hl with | [_, _, _], _ => rfl) (by decide +kernel) ok33 g
theorem sc34 : FnScope N34 [("book_so" : Str), ("text_so" : Str)] (defScope (top 56)) := ⟨rfl, rfl, rfl, by decide +kernel, rfl, by decide +kernel, by decide +kernel⟩
theorem ok34 : okSs (ctxOf N34 (defScope (top 56)) (fnsAll.take 34) gl errs bl fn34) fn34.body (defBody (top 56)) = true := by decide +kernel
theorem a34 (h : FnsOk P w K mg base xa tb fnsAll 34 T34) (M : Md K mg xa bl gl errs w) {fd : FuncData} (F : L2.FunD K ("_law_laid" : Str) ("_law_laid" : Str) (defArgs (top 56)) (defBody (top 56)) (defScope (top 56)) [] [] (He.ga K ("_law_laid" : Str)) fd) (g : mg ("_law_laid" : Str) = some (.ref (He.ga K ("_law_laid" : Str)))) : FnsOk P w K mg base xa tb fnsAll 35 T35 :=
  h.step M rfl F sc34 (fun _ _ _ _ _ _ us hl => match us, hl with | [_, _], _ => rfl) (by decide +kernel) ok34 g
theorem sc35 : FnScope N35 [("book_so" : Str), ("text_so" : Str)] (defScope (top 57)) := ⟨rfl, rfl, rfl, by decide +kernel, rfl, by decide +kernel, by decide +kernel⟩
theorem ok35 : okSs (ctxOf N35 (defScope (top 57)) (fnsAll.take 35) gl errs bl fn35) fn35.body (defBody (top 57)) = true := by decide +kernel
theorem a35 (h : FnsOk P w K mg base xa tb fnsAll 35 T35) (M : Md K mg xa bl gl errs w) {fd : FuncData} (F : L2.FunD K ("_law_spreads" : Str) ("_law_spreads" : Str) (defArgs (top 57)) (defBody (top 57)) (defScope (top 57)) [] [] (He.ga K ("_law_spreads" : Str)) fd) (g : mg ("_law_spreads" : Str) = some (.ref (He.ga K ("_law_spreads" : Str)))) : FnsOk P w K mg base xa tb fnsAll 36 T36 :=
  h.step M rfl F sc35 (fun _ _ _ _ _ _ us hl => match us, hl with | [_, _], _ => rfl) (by decide +kernel) ok35 g
theorem sc36 : FnScope N36 [("script" : Str)] (defScope (top 60)) := ⟨rfl, rfl, rfl, by decide +kernel, rfl, by decide +kernel, by decide +kernel⟩
theorem ok36 : okSs { ctxOf N36 (defScope (top 60)) (fnsAll.take 36) gl errs bl fn36 with lam := some kindsL } fn36.body (defBody (top 60)) = true := by decide +kernel
end
theorem facts {P : Program} {w : World} {K : PySem.W.Frag} {h : Heap} {mg : Str → Option Value} (X : K.In h) (G : h.Ns mainGlobals mg) (c : SaysF fs gl dfs K) (base : Heap) (tb : Addr) : FnsOk P w K mg base (fun i => He.ga K (errs.getD i Str.empty)) tb fnsAll 36 T36 := by
  have M := fs_md (names := names) (bl := bl) (errs := errs) c X G w
  obtain ⟨_, D0⟩ := c.def_ 0 (d := d_is_within) rfl
  have h0 := a0 (P := P) (base := base) (tb := tb) FnsOk.zero M D0 (He.glo_ok X G (c.fact (fs_glo (x := ("is_within" : Str)) (by decide +kernel))))
  obtain ⟨_, D1⟩ := c.def_ 1 (d := d_is_name) rfl
  have h1 := a1 (P := P) (base := base) (tb := tb) h0 M D1 (He.glo_ok X G (c.fact (fs_glo (x := ("is_name" : Str)) (by decide +kernel))))
  obtain ⟨_, D2⟩ := c.def_ 2 (d := d_climbs) rfl
  have h2 := a2 (P := P) (base := base) (tb := tb) h1 M D2 (He.glo_ok X G (c.fact (fs_glo (x := ("climbs" : Str)) (by decide +kernel))))
  obtain ⟨_, D3⟩ := c.def_ 3 (d := d_is_pair) rfl
  have h3 := a3 (P := P) (base := base) (tb := tb) h2 M D3 (He.glo_ok X G (c.fact (fs_glo (x := ("is_pair" : Str)) (by decide +kernel))))
  obtain ⟨_, D4⟩ := c.def_ 4 (d := d_is_kind) rfl
  have h4 := a4 (P := P) (base := base) (tb := tb) h3 M D4 (He.glo_ok X G (c.fact (fs_glo (x := ("is_kind" : Str)) (by decide +kernel))))
  obtain ⟨_, D5⟩ := c.def_ 5 (d := d_is_book) rfl
  have h5 := a5 (P := P) (base := base) (tb := tb) h4 M D5 (He.glo_ok X G (c.fact (fs_glo (x := ("is_book" : Str)) (by decide +kernel))))
  obtain ⟨_, D6⟩ := c.def_ 6 (d := d_need_book) rfl
  have h6 := a6 (P := P) (base := base) (tb := tb) h5 M D6 (He.glo_ok X G (c.fact (fs_glo (x := ("need_book" : Str)) (by decide +kernel))))
  obtain ⟨_, D7⟩ := c.def_ 7 (d := d_all_parts) rfl
  have h7 := a7 (P := P) (base := base) (tb := tb) h6 M D7 (He.glo_ok X G (c.fact (fs_glo (x := ("all_parts" : Str)) (by decide +kernel))))
  obtain ⟨_, D8⟩ := c.def_ 8 (d := d_is_part) rfl
  have h8 := a8 (P := P) (base := base) (tb := tb) h7 M D8 (He.glo_ok X G (c.fact (fs_glo (x := ("is_part" : Str)) (by decide +kernel))))
  obtain ⟨_, D9⟩ := c.def_ 9 (d := d_are_parts) rfl
  have h9 := a9 (P := P) (base := base) (tb := tb) h8 M D9 (He.glo_ok X G (c.fact (fs_glo (x := ("are_parts" : Str)) (by decide +kernel))))
  obtain ⟨_, D10⟩ := c.def_ 10 (d := d_need_text) rfl
  have h10 := a10 (P := P) (base := base) (tb := tb) h9 M D10 (He.glo_ok X G (c.fact (fs_glo (x := ("need_text" : Str)) (by decide +kernel))))
  obtain ⟨_, D11⟩ := c.def_ 11 (d := d_kind_named) rfl
  have h11 := a11 (P := P) (base := base) (tb := tb) h10 M D11 (He.glo_ok X G (c.fact (fs_glo (x := ("kind_named" : Str)) (by decide +kernel))))
  obtain ⟨_, D12⟩ := c.def_ 12 (d := d_begun_at) rfl
  have h12 := a12 (P := P) (base := base) (tb := tb) h11 M D12 (He.glo_ok X G (c.fact (fs_glo (x := ("begun_at" : Str)) (by decide +kernel))))
  obtain ⟨_, D13⟩ := c.def_ 13 (d := d_words_at) rfl
  have h13 := a13 (P := P) (base := base) (tb := tb) h12 M D13 (He.glo_ok X G (c.fact (fs_glo (x := ("words_at" : Str)) (by decide +kernel))))
  obtain ⟨_, D14⟩ := c.def_ 14 (d := d_spreads_to) rfl
  have h14 := a14 (P := P) (base := base) (tb := tb) h13 M D14 (He.glo_ok X G (c.fact (fs_glo (x := ("spreads_to" : Str)) (by decide +kernel))))
  obtain ⟨_, D15⟩ := c.def_ 15 (d := d_laid) rfl
  have h15 := a15 (P := P) (base := base) (tb := tb) h14 M D15 (He.glo_ok X G (c.fact (fs_glo (x := ("laid" : Str)) (by decide +kernel))))
  obtain ⟨_, D16⟩ := c.def_ 16 (d := d_all_laid) rfl
  have h16 := a16 (P := P) (base := base) (tb := tb) h15 M D16 (He.glo_ok X G (c.fact (fs_glo (x := ("all_laid" : Str)) (by decide +kernel))))
  obtain ⟨_, D17⟩ := c.def_ 16 (d := d_all_laid) rfl
  have h17 := a17 (P := P) (base := base) (tb := tb) h16 M D17 (He.glo_ok X G (c.fact (fs_glo (x := ("all_laid" : Str)) (by decide +kernel))))
  obtain ⟨_, D18⟩ := c.def_ 17 (d := d_all_broken) rfl
  have h18 := a18 (P := P) (base := base) (tb := tb) h17 M D18 (He.glo_ok X G (c.fact (fs_glo (x := ("all_broken" : Str)) (by decide +kernel))))
  obtain ⟨_, D19⟩ := c.def_ 18 (d := d_count_spreads) rfl
  have h19 := a19 (P := P) (base := base) (tb := tb) h18 M D19 (He.glo_ok X G (c.fact (fs_glo (x := ("count_spreads" : Str)) (by decide +kernel))))
  obtain ⟨_, D20⟩ := c.def_ 19 (d := d_begins) rfl
  have h20 := a20 (P := P) (base := base) (tb := tb) h19 M D20 (He.glo_ok X G (c.fact (fs_glo (x := ("begins" : Str)) (by decide +kernel))))
  obtain ⟨_, D21⟩ := c.def_ 20 (d := d_spreads) rfl
  have h21 := a21 (P := P) (base := base) (tb := tb) h20 M D21 (He.glo_ok X G (c.fact (fs_glo (x := ("spreads" : Str)) (by decide +kernel))))
  obtain ⟨_, D22⟩ := c.def_ 21 (d := d_blanks) rfl
  have h22 := a22 (P := P) (base := base) (tb := tb) h21 M D22 (He.glo_ok X G (c.fact (fs_glo (x := ("blanks" : Str)) (by decide +kernel))))
  obtain ⟨_, D23⟩ := c.def_ 22 (d := d_broken) rfl
  have h23 := a23 (P := P) (base := base) (tb := tb) h22 M D23 (He.glo_ok X G (c.fact (fs_glo (x := ("broken" : Str)) (by decide +kernel))))
  obtain ⟨_, D24⟩ := c.def_ 23 (d := d_law_well) rfl
  have h24 := a24 (P := P) (base := base) (tb := tb) h23 M D24 (He.glo_ok X G (c.fact (fs_glo (x := ("_law_well" : Str)) (by decide +kernel))))
  obtain ⟨_, D25⟩ := c.def_ 24 (d := d_law_take) rfl
  have h25 := a25 (P := P) (base := base) (tb := tb) h24 M D25 (He.glo_ok X G (c.fact (fs_glo (x := ("_law_take" : Str)) (by decide +kernel))))
  obtain ⟨_, D26⟩ := c.def_ 25 (d := d_law_any) rfl
  have h26 := a26 (P := P) (base := base) (tb := tb) h25 M D26 (He.glo_ok X G (c.fact (fs_glo (x := ("_law_any" : Str)) (by decide +kernel))))
  obtain ⟨_, D27⟩ := c.def_ 26 (d := d_law_words_of) rfl
  have h27 := a27 (P := P) (base := base) (tb := tb) h26 M D27 (He.glo_ok X G (c.fact (fs_glo (x := ("_law_words_of" : Str)) (by decide +kernel))))
  obtain ⟨_, D28⟩ := c.def_ 27 (d := d_law_pairs) rfl
  have h28 := a28 (P := P) (base := base) (tb := tb) h27 M D28 (He.glo_ok X G (c.fact (fs_glo (x := ("_law_pairs" : Str)) (by decide +kernel))))
  obtain ⟨_, D29⟩ := c.def_ 28 (d := d_law_book) rfl
  have h29 := a29 (P := P) (base := base) (tb := tb) h28 M D29 (He.glo_ok X G (c.fact (fs_glo (x := ("_law_book" : Str)) (by decide +kernel))))
  obtain ⟨_, D30⟩ := c.def_ 29 (d := d_law_all_parts) rfl
  have h30 := a30 (P := P) (base := base) (tb := tb) h29 M D30 (He.glo_ok X G (c.fact (fs_glo (x := ("_law_all_parts" : Str)) (by decide +kernel))))
  obtain ⟨_, D31⟩ := c.def_ 30 (d := d_law_text) rfl
  have h31 := a31 (P := P) (base := base) (tb := tb) h30 M D31 (He.glo_ok X G (c.fact (fs_glo (x := ("_law_text" : Str)) (by decide +kernel))))
  obtain ⟨_, D32⟩ := c.def_ 31 (d := d_law_begin) rfl
  have h32 := a32 (P := P) (base := base) (tb := tb) h31 M D32 (He.glo_ok X G (c.fact (fs_glo (x := ("_law_begin" : Str)) (by decide +kernel))))
  obtain ⟨_, D33⟩ := c.def_ 32 (d := d_law_spoken) rfl
  have h33 := a33 (P := P) (base := base) (tb := tb) h32 M D33 (He.glo_ok X G (c.fact (fs_glo (x := ("_law_spoken" : Str)) (by decide +kernel))))
  obtain ⟨_, D34⟩ := c.def_ 33 (d := d_law_laid) rfl
  have h34 := a34 (P := P) (base := base) (tb := tb) h33 M D34 (He.glo_ok X G (c.fact (fs_glo (x := ("_law_laid" : Str)) (by decide +kernel))))
  obtain ⟨_, D35⟩ := c.def_ 34 (d := d_law_spreads) rfl
  have h35 := a35 (P := P) (base := base) (tb := tb) h34 M D35 (He.glo_ok X G (c.fact (fs_glo (x := ("_law_spreads" : Str)) (by decide +kernel))))
  exact h35
abbrev R : PySem.W.OpenRow := PySem.W.OpenLaw.row PySem.Challenge.rw_facingtexts_k03_texts_that_are_laid
abbrev hk : PySem.W.Hook := hookL 4 fs gl dfs errs kBs
def ob (s : PySem.W.SharedT) : He.AlD := obsLG 4 fs gl dfs errs kBs (HandSHeadRun.getT s)
theorem ob_eq (s : PySem.W.SharedT) : ob s = hk.obs s.abs := obsLG_eq (HandSHeadRun.getT_eq s)
theorem sc_law_call : FnScope HotL.cN [(("call_so" : Str) : Str)] (defScope (top 59)) := ⟨rfl, rfl, rfl, by decide +kernel, rfl, by decide +kernel, by decide +kernel⟩
theorem ch_law_call : HotL.callB (defScope (top 59)) (defBody (top 59)) = true := by decide +kernel
theorem sc_law_kinds : FnScope HotL.kN [(("e" : Str) : Str)] (defScope (top 58)) := ⟨rfl, rfl, rfl, by decide +kernel, rfl, by decide +kernel, by decide +kernel⟩
theorem ch_law_kinds : HotL.kindsB (defScope (top 58)) (defBody (top 58)) = true := by decide +kernel
def loose : List PySem.Str := ([("FaceError" : Str), ("InvalidBook" : Str), ("InvalidText" : Str), ("InvalidPart" : Str), ("InvalidStand" : Str), ("InvalidWord" : Str), ("InvalidSide" : Str), ("InvalidChange" : Str), ("InvalidNumber" : Str), ("InvalidName" : Str), ("InvalidIndex" : Str), ("NoText" : Str), ("Unlike" : Str), ("NothingToUndo" : Str), ("TooMany" : Str), ("LETTERS" : Str), ("MOST_PAIRS" : Str), ("MOST_DRIFT" : Str), ("is_within" : Str), ("is_name" : Str), ("climbs" : Str), ("is_pair" : Str), ("is_kind" : Str), ("is_book" : Str), ("need_book" : Str), ("all_parts" : Str), ("is_part" : Str), ("are_parts" : Str), ("need_text" : Str), ("kind_named" : Str)] : List PySem.Str) ++ ([("FIRST" : Str), ("begun_at" : Str), ("words_at" : Str), ("spreads_to" : Str), ("laid" : Str), ("all_laid" : Str), ("all_broken" : Str), ("count_spreads" : Str), ("begins" : Str), ("spreads" : Str), ("blanks" : Str), ("broken" : Str), ("_law_well" : Str), ("_law_take" : Str), ("_law_any" : Str), ("_law_words_of" : Str), ("_law_pairs" : Str), ("_law_book" : Str), ("_law_all_parts" : Str), ("_law_text" : Str), ("_law_begin" : Str), ("_law_spoken" : Str), ("_law_laid" : Str), ("_law_spreads" : Str), ("_law_kinds" : Str), ("_law_call" : Str)] : List PySem.Str)
theorem run (w : World) : HandSHeadRun.RunEq R (PySem.W.view R.prog [60]) hk ob 8000 loose w := by
  intro os
  kernel_rfl
end Pg
open PySem PySem.W PySem.Calls PyProof.Rows
theorem Pg.done (true_ : ∀ ns : List Int, ns.length ≤ 63 → ∃ o, Pg.F36 [.d (FF.scriptD ns)] = .ok (.d (.bool true)) o) : PySem.Challenge.rw_facingtexts_k03_texts_that_are_laid.Holds := by
  w_on; o_law
  refine HandSHeadRun.head_any (r := OpenLaw.row PySem.Challenge.rw_facingtexts_k03_texts_that_are_laid) (q := view (OpenLaw.row PySem.Challenge.rw_facingtexts_k03_texts_that_are_laid).prog [60]) (H := Pg.hk) (ob := Pg.ob) (M := 8000) (loose := Pg.loose) (d := HandSHeadRun.topDef (OpenLaw.row PySem.Challenge.rw_facingtexts_k03_texts_that_are_laid).prog 60) (kwd := []) Pg.ob_eq
    (by kernel_rfl) (fun s => by kernel_rfl) Pg.run (by kernel_rfl) (by kernel_rfl) (by kernel_rfl) (by rfl) (by first | assumption | decide +kernel) (by decide +kernel) ⟨rfl, rfl, rfl, rfl, rfl, by decide +kernel⟩ ?hw ?hc
  case hw => w_witness2
  case hc =>

    refine FF.walk_L (n := 63) (k := 39) (x := "script") rfl (by decide) (by kernel_rfl) ⟨rfl, by decide, by decide⟩ ?F
    intro w mg a h Y G hmg0
    obtain ⟨K, c0, P0, KX, sl⟩ := Y
    have c := sl.s
    have hmg : mg ("law" : PySem.Str) = some (.ref a) := by
      have e : (HandSHeadRun.topDef (OpenLaw.row PySem.Challenge.rw_facingtexts_k03_texts_that_are_laid).prog 60).name = ("law" : PySem.Str) := by kernel_rfl
      rw [← e]
      exact hmg0
    have glo : ∀ x ∈ Pg.names, mg x = some (.ref (He.ga K x)) := fun x hx => He.glo_ok KX G (c.fact (FF.fs_glo hx))
    have e := hmg.symm.trans (glo ("law" : PySem.Str) (by decide +kernel))
    cases e
    obtain ⟨fd, D⟩ := c.def_ 37 (d := Pg.d_law) rfl
    obtain ⟨fdc, DC⟩ := c.def_ 36 (d := Pg.d_law_call) rfl
    obtain ⟨fdk, DK⟩ := c.def_ 35 (d := Pg.d_law_kinds) rfl
    have M := FF.fs_md (names := Pg.names) (bl := Pg.bl) (errs := Pg.errs) c KX G w
    refine ⟨K, fd, FF.faOf K P0 Pg.fnsAll, (fun i => He.ga K (Pg.errs.getD i Str.empty)), Pg.F36, c0, P0, KX, fun s v => L2.FunD.bindsA (ps := ["script"]) D (fun _ _ _ _ _ _ us hl => match us, hl with | [_], _ => rfl) s [v] rfl, rfl, sl.hd, sl.tab, sl.nK, fun base _ _ TB => ?_, true_⟩
    exact FF.fn_okL M (Pg.facts (P := (PySem.Challenge.rw_facingtexts_k03_texts_that_are_laid).prog) KX G c base P0).fn D Pg.sc36 rfl rfl (by decide +kernel) Pg.ok36 sl.code TB sl.n0
      DC Pg.sc_law_call (DC.bindsN fun _ _ _ _ _ _ us hl => match us, hl with | [_], _ => rfl) Pg.ch_law_call (glo ("_law_call" : PySem.Str) (by decide +kernel))
      DK Pg.sc_law_kinds (DK.bindsN fun _ _ _ _ _ _ us hl => match us, hl with | [_], _ => rfl) Pg.ch_law_kinds (glo ("_law_kinds" : PySem.Str) (by decide +kernel))
      (glo ("TooMany" : PySem.Str) (by decide +kernel)) (glo ("FaceError" : PySem.Str) (by decide +kernel)) (M.bl ("isinstance" : PySem.Str) (by decide +kernel)) (M.bl ("zip" : PySem.Str) (by decide +kernel))
      (FF.kinds_of sl.k (fun y hy => glo y (List.contains_iff_mem.mp (List.all_eq_true.mp (by decide +kernel : (HotL.kCs.all fun y => Pg.names.contains y) = true) y hy))) (M.bl ("ValueError" : PySem.Str) (by decide +kernel)) Pg.ksOk)
end
section
set_option Elab.async false
set_option linter.all false
set_option maxRecDepth 100000
namespace Pg
open PySem PySem.Spec PyProof.Rows L2 PySem.W FF
theorem f0_int (v lo hi : Int) : F0 [.d (.int v), .d (.int lo), .d (.int hi)] = .ok (.d (.bool (decide (lo ≤ v) && decide (v ≤ hi)))) [.d (.int v), .d (.int lo), .d (.int hi)] := by
  simp [F0, fn0, evFn, evSs, evS, evW, ownOnly, W.hold, pkVar, isiW, PyData.plain, isTy, cmpD, outsOf]
  by_cases h : lo ≤ v <;> simp [h, outsOf]
structure Kn where
  name : Str
  pairs : List (Int × Int)
  level : Bool
structure Bk where
  h : Int
  l : Int
  hd : Bool
  ks : List Kn
structure Pt where
  name : Str
  l : Int
  r : Int
  deriving DecidableEq
def pD (p : Int × Int) : D := .tuple [.int p.1, .int p.2]
def knD (k : Kn) : D := .tuple [.str k.name, .tuple (k.pairs.map pD), .bool k.level]
def bkD (b : Bk) : D := .tuple [.int b.h, .int b.l, .bool b.hd, .tuple (b.ks.map knD)]
def ptD (p : Pt) : D := .tuple [.str p.name, .int p.l, .int p.r]
@[simp] theorem eqv_str (a b : Str) : PyData.eqv (.str a) (.str b) = decide (a = b) := by
  first
  | rfl
  | simp [PyData.eqv]
@[simp] theorem plain_str (a : Str) : eqOk (.str a) = true := by
  first
  | rfl
  | simp [eqOk, PyData.plain, PyData.depth]
theorem atI_nat {α : Type} (xs : List α) (i : Nat) (h : i < xs.length) : L2.atI xs (i : Int) = xs[i]? := by
  simp [L2.atI, L2.ixN, h]
@[simp] theorem idx0 (x : D) (xs : List D) : idxD (.tuple (x :: xs)) (.int 0) = some x := by
  simpa [idxD] using atI_nat (x :: xs) 0 (by simp)
@[simp] theorem idx1 (x y : D) (xs : List D) : idxD (.tuple (x :: y :: xs)) (.int 1) = some y := by
  simpa [idxD] using atI_nat (x :: y :: xs) 1 (by simp)
@[simp] theorem idx2 (x y z : D) (xs : List D) : idxD (.tuple (x :: y :: z :: xs)) (.int 2) = some z := by
  simpa [idxD] using atI_nat (x :: y :: z :: xs) 2 (by simp)
@[simp] theorem idx3 (x y z u : D) (xs : List D) : idxD (.tuple (x :: y :: z :: u :: xs)) (.int 3) = some u := by
  simpa [idxD] using atI_nat (x :: y :: z :: u :: xs) 3 (by simp)
def fkind (ks : List Kn) (n : Str) : Option Kn := ks.find? fun k => decide (k.name = n)
def okn : Option Kn → D
  | some k => knD k
  | none => .none
theorem f11_loop (Γ : Nat → FF.FunD) (B : D) (n : Str) : ∀ (ks : List Kn) (s : W), ∃ s', forDo Γ (.nm 2) (.cons (.if_ (.cmp .eq (.idx (.var 2) (.k (.int 0))) (.var 1)) (.cons (.ret (.mv 2)) .nil) .nil) .nil) (ks.map knD) [.d B, .d (.str n), s] =
    match fkind ks n with
    | some k => .rt (.d (knD k)) [.d B, .d (.str n), .d (knD k)]
    | none => .nx [.d B, .d (.str n), s']
  | [], s => ⟨s, rfl⟩
  | k :: ks, s => by
    obtain ⟨s', e⟩ := f11_loop Γ B n ks (.d (knD k))
    refine ⟨s', ?_⟩
    simp only [List.map_cons, forDo_cons]
    by_cases h : k.name = n
    · have h' : fkind (k :: ks) n = some k := by simp [fkind, h]
      rw [h']
      simp [knD, h, cmpD]
    · have h' : fkind (k :: ks) n = fkind ks n := by simp [fkind, h]
      rw [h', ← e]
      simp [knD, h, cmpD]
theorem f11 (b : Bk) (n : Str) : F11 [.d (bkD b), .d (.str n)] = .ok (.d (okn (fkind b.ks n))) [.d (bkD b), .d (.str n)] := by
  obtain ⟨s', e⟩ := f11_loop (getL T11) (bkD b) n b.ks .un
  simp only [bkD] at e ⊢
  cases h : fkind b.ks n <;> simp [h] at e <;> simp [F11, fn11, evFn, e, SO.free, okn]
/-! ### laying -/
def begunAt (b : Bk) (l r : Int) (p : Pt) (level : Bool) : Int × Int :=
  let q := if level || decide (b.l < (if r - l < 0 then -(r - l) else r - l)) then (if r > l then r else l, if r > l then r else l) else (l, r)
  if b.hd && decide (q.1.fdiv b.h < q.2.fdiv b.h) then (q.2.fdiv b.h * b.h, q.2)
  else if b.hd && decide (q.2.fdiv b.h < q.1.fdiv b.h) then (q.1, q.1.fdiv b.h * b.h)
  else q
theorem f12 (b : Bk) (l r : Int) (p : Pt) (k : Kn) (hk : fkind b.ks p.name = some k) (h2 : 2 ≤ b.h) (h6 : b.h ≤ 6) :
    F12 [.d (bkD b), .d (pD (l, r)), .d (ptD p)] = .ok (.d (pD (begunAt b l r p k.level))) [.d (bkD b), .d (pD (l, r)), .d (ptD p)] := by
  have e := f11 b p.name
  rw [hk] at e
  have n0 : b.h ≠ 0 := by omega
  have n1 : b.h.natAbs < 1073741824 := by omega
  have m1 : ∀ i : Int, mulOk i b.h = true := by
    intro i
    have : (decide (-(2 ^ 64) < b.h) && decide (b.h < 2 ^ 64)) = true := by simp; omega
    simp only [mulOk, this, Bool.true_or, Bool.or_true]
  have t11 : getL T12 11 = F11 := rfl
  have sl : slcW (bkD b) none (some 3) = some (.d (.tuple [.int b.h, .int b.l, .bool b.hd])) := rfl
  have nm : (ptD p) = .tuple [.str p.name, .int p.l, .int p.r] := rfl
  have hf : ∀ i : Int, binW .fdiv (.int i) (.int b.h) = some (.d (.int (i.fdiv b.h))) := fun i => fdiv_int i n0 n1
  have hm : ∀ i : Int, binW .mul (.int i) (.int b.h) = some (.d (.int (i * b.h))) := fun i => mul_int (m1 i)
  obtain ⟨kn, kp, kl⟩ := k
  have sx : sizeLine ≥ 2 := by decide
  simp only [begunAt]
  cases kl
  · by_cases c1 : b.l < (if r - l < 0 then -(r - l) else r - l)
    · cases hh : b.hd
      · simp [F12, fn12, evFn, sl, pD, nm, tsLen, t11, doCall, putOuts, e, knD, okn, hh, hf, hm, setAll, sx, c1]
      · simp [F12, fn12, evFn, sl, pD, nm, tsLen, t11, doCall, putOuts, e, knD, okn, hh, hf, hm, setAll, sx, c1]
    · cases hh : b.hd
      · simp [F12, fn12, evFn, sl, pD, nm, tsLen, t11, doCall, putOuts, e, knD, okn, hh, hf, hm, setAll, sx, c1]
      · by_cases c2 : l.fdiv b.h < r.fdiv b.h
        · simp [F12, fn12, evFn, sl, pD, nm, tsLen, t11, doCall, putOuts, e, knD, okn, hh, hf, hm, setAll, sx, c1, c2]
        · by_cases c3 : r.fdiv b.h < l.fdiv b.h
          · simp [F12, fn12, evFn, sl, pD, nm, tsLen, t11, doCall, putOuts, e, knD, okn, hh, hf, hm, setAll, sx, c1, c2, c3]
          · simp [F12, fn12, evFn, sl, pD, nm, tsLen, t11, doCall, putOuts, e, knD, okn, hh, hf, hm, setAll, sx, c1, c2, c3]
  · cases hh : b.hd
    · simp [F12, fn12, evFn, sl, pD, nm, tsLen, t11, doCall, putOuts, e, knD, okn, hh, hf, hm, setAll, sx]
    · simp [F12, fn12, evFn, sl, pD, nm, tsLen, t11, doCall, putOuts, e, knD, okn, hh, hf, hm, setAll, sx]
/-- words_at -/
def wordsAt (h l r : Int) (p : Pt) : List D :=
  if p.l = 0 ∨ p.r = 0 ∨ l.fdiv h = r.fdiv h then []
  else if (l + p.l - 1).fdiv h < r.fdiv h ∨ (r + p.r - 1).fdiv h < l.fdiv h then [.str "apart", .str "torn"]
  else [.str "torn"]
theorem eqv_int (i j : Int) : PyData.eqv (.int i) (.int j) = decide (i = j) := by
  first
  | rfl
  | simp [PyData.eqv]
theorem eq_int (i j : Int) : cmpD .eq (.int i) (.int j) = some (decide (i = j)) := by
  have : ∀ i : Int, eqOk (.int i) = true := fun _ => rfl
  simp [cmpD, this, eqv_int]
theorem f13 (h l r : Int) (p : Pt) (h2 : 2 ≤ h) (h6 : h ≤ 6) :
    F13 [.d (.int h), .d (pD (l, r)), .d (ptD p)] = .ok (.d (.tuple (wordsAt h l r p))) [.d (.int h), .d (pD (l, r)), .d (ptD p)] := by
  have n0 : h ≠ 0 := by omega
  have n1 : h.natAbs < 1073741824 := by omega
  have hf : ∀ i : Int, binW .fdiv (.int i) (.int h) = some (.d (.int (i.fdiv h))) := fun i => fdiv_int i n0 n1
  have nm : (ptD p) = .tuple [.str p.name, .int p.l, .int p.r] := rfl
  have sx : sizeLine ≥ 2 := by decide
  have sx1 : sizeLine ≥ 1 := by decide
  unfold wordsAt
  by_cases c1 : p.l = 0
  · simp [F13, fn13, evFn, pD, nm, tsLen, hf, eq_int, c1]
  · by_cases c2 : p.r = 0
    · simp [F13, fn13, evFn, pD, nm, tsLen, hf, eq_int, c1, c2]
    · by_cases c3 : l.fdiv h = r.fdiv h
      · simp [F13, fn13, evFn, pD, nm, tsLen, hf, eq_int, c1, c2, c3]
      · by_cases c4 : (l + p.l - 1).fdiv h < r.fdiv h
        · simp [F13, fn13, evFn, pD, nm, tsLen, hf, eq_int, c1, c2, c3, c4, sx, sx1]
        · by_cases c5 : (r + p.r - 1).fdiv h < l.fdiv h
          · simp [F13, fn13, evFn, pD, nm, tsLen, hf, eq_int, c1, c2, c3, c4, c5, sx, sx1]
          · simp [F13, fn13, evFn, pD, nm, tsLen, hf, eq_int, c1, c2, c3, c4, c5, sx, sx1]
end Pg
end
section
set_option Elab.async false
set_option linter.all false
set_option maxRecDepth 100000
namespace Pg
open PySem PySem.Spec PyProof.Rows L2 PySem.W FF
def spreadsTo (h l r : Int) : Int := ((if l < r then r else l) + h - 1).fdiv h
theorem f14 (h l r : Int) (h2 : 2 ≤ h) (h6 : h ≤ 6) : F14 [.d (.int h), .d (pD (l, r))] = .ok (.d (.int (spreadsTo h l r))) [.d (.int h), .d (pD (l, r))] := by
  have n0 : h ≠ 0 := by omega
  have n1 : h.natAbs < 1073741824 := by omega
  have hf : ∀ i : Int, binW .fdiv (.int i) (.int h) = some (.d (.int (i.fdiv h))) := fun i => fdiv_int i n0 n1
  have mx : biW .max [.tuple [.int l, .int r]] = some (.d (.int (if l < r then r else l))) := rfl
  simp [F14, fn14, evFn, pD, hf, mx, spreadsTo]
/-- laid -/
def laidOf (b : Bk) (l r : Int) (p : Pt) (level : Bool) : (Int × Int) × (Int × Int) :=
  let q := begunAt b l r p level
  (q, (q.1 + p.l, q.2 + p.r))
theorem f15 (b : Bk) (l r : Int) (p : Pt) (k : Kn) (hk : fkind b.ks p.name = some k) (h2 : 2 ≤ b.h) (h6 : b.h ≤ 6) :
    F15 [.d (bkD b), .d (pD (l, r)), .d (ptD p)] = .ok (.d (.tuple [pD (laidOf b l r p k.level).1, pD (laidOf b l r p k.level).2])) [.d (bkD b), .d (pD (l, r)), .d (ptD p)] := by
  have e := f12 b l r p k hk h2 h6
  have t : getL T15 12 = F12 := rfl
  have nm : (ptD p) = .tuple [.str p.name, .int p.l, .int p.r] := rfl
  have sx : sizeLine ≥ 2 := by decide
  rw [nm] at e ⊢
  simp only [pD] at e ⊢
  simp [F15, fn15, evFn, t, doCall, putOuts, e, sx, laidOf]
/-- step -/
structure St where
  there : Int × Int
  blank : Int × Int
  more : Int
  words : List D
def stepOf (b : Bk) (s : Int × Int) (p : Pt) (level : Bool) : St :=
  let g := laidOf b s.1 (s.1 + s.2) p level
  ⟨(g.2.1.fmod b.h, g.2.2 - g.2.1), (g.1.1 - s.1, g.1.2 - (s.1 + s.2)), spreadsTo b.h g.2.1 g.2.2 - spreadsTo b.h s.1 (s.1 + s.2), wordsAt b.h g.1.1 g.1.2 p⟩
def stD (s : St) : D := .tuple [pD s.there, pD s.blank, .int s.more, .tuple s.words]
end Pg
end
section
set_option Elab.async false
set_option linter.all false
set_option maxRecDepth 100000
namespace Pg
open PySem PySem.Spec PyProof.Rows L2 PySem.W FF
/-- parts -/
def partsK (k : Kn) : List Pt := k.pairs.map fun p => ⟨k.name, p.1, p.2⟩
def partsOf (ks : List Kn) : List Pt := (ks.map partsK).flatten
theorem sx : (100000 : Nat) ≤ sizeLine := by decide
theorem f7_lc (Γ : Nat → FF.FunD) (B F n pl lv : W) (nm : Str) (ps : List (Int × Int)) (hl : ps.length ≤ 1000) :
    lcDo Γ [5, 6] (.tp (.cons (.nm 5) (.cons (.nm 6) .nil))) .nil (.tup (.cons (.var 2) (.cons (.var 5) (.cons (.var 6) .nil)))) (ps.map pD) [] [B, F, .d (.str nm), pl, lv, .un, .un]
      = .ok (ps.map fun p => ptD ⟨nm, p.1, p.2⟩) [B, F, .d (.str nm), pl, lv, .un, .un] := by
  have s3 : sizeLine ≥ 3 := by decide
  have := lcDo_map Γ (own := [5, 6]) (t := .tp (.cons (.nm 5) (.cons (.nm 6) .nil))) (c := .nil) (e := .tup (.cons (.var 2) (.cons (.var 5) (.cons (.var 6) .nil))))
    (f := fun x => match x with | .tuple [a, b] => some (.tuple [.str nm, a, b]) | _ => none)
    (ρ := [B, F, .d (.str nm), pl, lv, .un, .un]) (xs := ps.map pD) (by
      intro x hx
      obtain ⟨p, _, rfl⟩ := List.mem_map.mp hx
      exact ⟨[B, F, .d (.str nm), pl, lv, .d (.int p.1), .d (.int p.2)], by simp [lcTurn, pD, tsLen, s3], by simp⟩) [] (by have := sx; simp; omega)
  rw [this]
  simp [List.filterMap_map, Function.comp_def, pD, ptD]
abbrev lc7 : E := .lc [5, 6] (.tp (.cons (.nm 5) (.cons (.nm 6) .nil))) (.lk 3) .nil (.tup (.cons (.var 2) (.cons (.var 5) (.cons (.var 6) .nil))))
theorem f7_loop (Γ : Nat → FF.FunD) (B : D) : ∀ (ks : List Kn) (acc : List D) (s2 s3 s4 : W), (∀ k ∈ ks, k.pairs.length ≤ 1000) → acc.length + (partsOf ks).length ≤ sizeLine →
    ∃ s2' s3' s4', forDo Γ (.tp (.cons (.nm 2) (.cons (.nm 3) (.cons (.nm 4) .nil)))) (.cons (.ex (.mto .extend 1 (.cons lc7 .nil))) .nil) (ks.map knD) [.d B, .ol acc, s2, s3, s4, .un, .un]
      = .nx [.d B, .ol (acc ++ (partsOf ks).map ptD), s2', s3', s4', .un, .un]
  | [], acc, s2, s3, s4, _, _ => ⟨s2, s3, s4, by simp [forDo_nil, partsOf]⟩
  | k :: ks, acc, s2, s3, s4, hk, hl => by
    have e := f7_lc Γ (.d B) (.ol acc) (.d (.str k.name)) (.d (.tuple (k.pairs.map pD))) (.d (.bool k.level)) k.name k.pairs (hk k (.head _))
    have hl' : acc.length + k.pairs.length + (partsOf ks).length ≤ sizeLine := by
      simp [partsOf, partsK] at hl ⊢; omega
    obtain ⟨a, b, c, h⟩ := f7_loop Γ B ks (acc ++ k.pairs.map fun p => ptD ⟨k.name, p.1, p.2⟩) (.d (.str k.name)) (.d (.tuple (k.pairs.map pD))) (.d (.bool k.level)) (fun k' m => hk k' (.tail _ m)) (by simp; omega)
    refine ⟨a, b, c, ?_⟩
    have e2 : (partsOf (k :: ks)).map ptD = (k.pairs.map fun p => ptD ⟨k.name, p.1, p.2⟩) ++ (partsOf ks).map ptD := by
      simp [partsOf, partsK, Function.comp_def]
    rw [e2, ← List.append_assoc, ← h]
    simp only [List.map_cons, forDo_cons]
    have hl2 : acc.length + k.pairs.length ≤ sizeLine := by omega
    simp [knD, tsLen, lockW, freeW, e, mtOwn, hl2]
theorem f7 (b : Bk) (hk : ∀ k ∈ b.ks, k.pairs.length ≤ 1000) (hl : (partsOf b.ks).length ≤ sizeLine) :
    F7 [.d (bkD b)] = .ok (.ol ((partsOf b.ks).map ptD)) [.d (bkD b)] := by
  obtain ⟨x, y, z, e⟩ := f7_loop (getL T7) (bkD b) b.ks [] .un .un .un hk (by simpa using hl)
  have b3 : idxD (bkD b) (.int 3) = some (.tuple (b.ks.map knD)) := idx3 _ _ _ _ _
  simp at e
  simp [F7, fn7, evFn, b3, e, SO.free]
end Pg
end
section
set_option Elab.async false
set_option linter.all false
set_option maxRecDepth 100000
namespace Pg
open PySem PySem.Spec PyProof.Rows L2 PySem.W FF
def levelOf (ks : List Kn) (p : Pt) : Bool := match fkind ks p.name with
  | some k => k.level
  | none => false
def layAll (b : Bk) : List Pt → Int × Int → List (Int × Int) × (Int × Int)
  | [], q => ([], q)
  | p :: ps, q => let g := laidOf b q.1 q.2 p (levelOf b.ks p)
    (g.1 :: (layAll b ps g.2).1, (layAll b ps g.2).2)
theorem f17_loop (b : Bk) (h2 : 2 ≤ b.h) (h6 : b.h ≤ 6) (X : W) : ∀ (ps : List Pt) (q : Int × Int) (acc : List D) (s4 s5 : W), (∀ p ∈ ps, (fkind b.ks p.name).isSome) → acc.length + ps.length ≤ sizeLine →
    ∃ s4' s5', forDo (getL T16) (.nm 4) (.cons (.asg (.tp (.cons (.nm 5) (.cons (.nm 3) .nil))) (.call 15 (.cons (.var 0) (.cons (.var 3) (.cons (.var 4) .nil))))) (.cons (.ex (.app 2 (.var 5))) .nil)) (ps.map ptD) [.d (bkD b), X, .ol acc, .d (pD q), s4, s5]
      = .nx [.d (bkD b), X, .ol (acc ++ (layAll b ps q).1.map pD), .d (pD (layAll b ps q).2), s4', s5']
  | [], q, acc, s4, s5, _, _ => ⟨s4, s5, by simp [forDo_nil, layAll]⟩
  | p :: ps, q, acc, s4, s5, hp, hl => by
    obtain ⟨k, hk⟩ := Option.isSome_iff_exists.mp (hp p (.head _))
    have lv : levelOf b.ks p = k.level := by simp [levelOf, hk]
    have e := f15 b q.1 q.2 p k hk h2 h6
    rw [← lv] at e
    obtain ⟨x, y, h⟩ := f17_loop b h2 h6 X ps (laidOf b q.1 q.2 p (levelOf b.ks p)).2 (acc ++ [pD (laidOf b q.1 q.2 p (levelOf b.ks p)).1]) (.d (ptD p)) (.d (pD (laidOf b q.1 q.2 p (levelOf b.ks p)).1)) (fun p' m => hp p' (.tail _ m)) (by simp at hl ⊢; omega)
    refine ⟨x, y, ?_⟩
    have e2 : acc ++ (layAll b (p :: ps) q).1.map pD = (acc ++ [pD (laidOf b q.1 q.2 p (levelOf b.ks p)).1]) ++ (layAll b ps (laidOf b q.1 q.2 p (levelOf b.ks p)).2).1.map pD := by
      simp [layAll]
    have e3 : (layAll b (p :: ps) q).2 = (layAll b ps (laidOf b q.1 q.2 p (levelOf b.ks p)).2).2 := by simp [layAll]
    rw [e2, e3, ← h]
    simp only [List.map_cons, forDo_cons]
    have hl2 : acc.length < sizeLine := by simp at hl; omega
    have t15 : getL T16 15 = F15 := rfl
    simp [t15, doCall, putOuts, e, tsLen, hl2]
theorem f17 (b : Bk) (h2 : 2 ≤ b.h) (h6 : b.h ≤ 6) (ps : List Pt) (hp : ∀ p ∈ ps, (fkind b.ks p.name).isSome) (hl : ps.length ≤ sizeLine) :
    F16 [.d (bkD b), .d (.tuple (ps.map ptD))] = .ok (.d (.tuple [.list ((layAll b ps (0, 0)).1.map pD), pD (layAll b ps (0, 0)).2])) [.d (bkD b), .d (.tuple (ps.map ptD))] := by
  obtain ⟨x, y, e⟩ := f17_loop b h2 h6 (.d (.tuple (ps.map ptD))) ps (0, 0) [] .un .un hp (by simpa using hl)
  have s2 : sizeLine ≥ 2 := by decide
  have z : pD (0, 0) = .tuple [.int 0, .int 0] := rfl
  rw [z] at e
  simp at e
  simp [F16, fn16, evFn, lockW, freeW, setAll, e, SO.free, s2]
end Pg
end
section
set_option Elab.async false
set_option linter.all false
set_option maxRecDepth 100000
namespace Pg
open PySem PySem.Spec PyProof.Rows L2 PySem.W FF
def menu : List Str := ["a", "b", "c", "note", "text", "verse", "kind", "level", "pages", "bb", "zzzzzzzz"]
theorem f1 : ∀ n ∈ menu, F1 [.d (.str n)] = .ok (.d (.bool true)) [.d (.str n)] := by
  intro n h
  simp only [menu, List.mem_cons, List.not_mem_nil, or_false] at h
  rcases h with h | h | h | h | h | h | h | h | h | h | h <;> subst h <;> rfl
theorem plain_pair (p : Int × Int) : (pD p).plain = true := rfl
theorem eqOk_pair (p : Int × Int) : eqOk (pD p) = true := rfl
theorem eqv_pair (a b c d : Int) : PyData.eqv (pD (a, b)) (pD (c, d)) = (decide (a = c) && decide (b = d)) := by
  simp [pD, PyData.eqv, PyData.eqvAll]
  rfl
/-- is_pair -/
theorem f3 (p : Int × Int) (a : 0 ≤ p.1) (b : p.1 ≤ 4) (c : 0 ≤ p.2) (d : p.2 ≤ 4) (n : p ≠ (0, 0)) :
    F3 [.d (pD p)] = .ok (.d (.bool true)) [.d (pD p)] := by
  have e1 := f0_int p.1 0 4
  have e2 := f0_int p.2 0 4
  have t : getL T3 0 = F0 := rfl
  have ne : cmpD .ne (pD p) (.tuple [.int 0, .int 0]) = some true := by
    have h1 : eqOk (pD p) = true := rfl
    have h2 : eqOk (.tuple [.int 0, .int 0]) = true := rfl
    have h3 : PyData.eqv (pD p) (.tuple [.int 0, .int 0]) = false := by
      have := eqv_pair p.1 p.2 0 0
      rw [show (pD (p.1, p.2)) = pD p from rfl, show pD (0, 0) = .tuple [.int 0, .int 0] from rfl] at this
      rw [this]
      by_cases q : p.1 = 0
      · have : p.2 ≠ 0 := fun q' => n (by cases p; simp_all)
        simp [q, this]
      · simp [q]
    simp [cmpD, h1, h2, h3]
  have ty : isiW .tuple (pD p) = some (.d (.bool true)) := rfl
  have ln : biW .len [pD p] = some (.d (.int 2)) := rfl
  have i0 : idxD (pD p) (.int 0) = some (.int p.1) := idx0 _ _
  have i1 : idxD (pD p) (.int 1) = some (.int p.2) := idx1 _ _ _
  have n2 : cmpD .ne (.int 2) (.int 2) = some false := rfl
  have s2 : sizeLine ≥ 2 := by decide
  simp [F3, fn3, evFn, t, doCall, putOuts, e1, e2, ne, ty, ln, i0, i1, n2, a, b, c, d, s2]
end Pg
end
section
set_option Elab.async false
set_option linter.all false
set_option maxRecDepth 100000
namespace Pg
open PySem PySem.Spec PyProof.Rows L2 PySem.W FF
/-- climbs, where each is below the next -/
theorem f2_t (xs : List D) (hl : xs.length ≤ 1000) (sl : slcW (.tuple xs) (some 1) none = some (.d (.tuple (xs.drop 1))))
    (h : ∀ x ∈ List.zipWith (fun x y => (x, y)) xs (xs.drop 1), cmpD .lt x.1 x.2 = some true) :
    F2 [.d (.tuple xs)] = .ok (.d (.bool true)) [.d (.tuple xs)] := by
  have := lcDo_map (getL T2) (own := [1, 2]) (t := .tp (.cons (.nm 1) (.cons (.nm 2) .nil))) (c := .nil) (e := .cmp .lt (.var 1) (.var 2))
    (f := fun _ => some (.bool true))
    (ρ := [.d (.tuple xs), .un, .un]) (xs := List.zipWith (fun x y => .tuple [x, y]) xs (xs.drop 1)) (by
      intro x hx
      have e : List.zipWith (fun x y => PyData.tuple [x, y]) xs (xs.drop 1) = (List.zipWith (fun x y => (x, y)) xs (xs.drop 1)).map fun p => PyData.tuple [p.1, p.2] := by
        rw [List.map_zipWith]
      rw [e] at hx
      obtain ⟨p, hp, rfl⟩ := List.mem_map.mp hx
      exact ⟨[.d (.tuple xs), .d p.1, .d p.2], by simp [lcTurn, tsLen, h p hp], by simp⟩) [] (by have := sx; simp; omega)
  have bt : ∀ ys zs : List D, biW .all [.list (List.zipWith (fun _ _ => .bool true) ys zs)] = some (.d (.bool true)) := by
    have : ∀ ys zs : List D, ∃ bs : List Bool, boolsD (List.zipWith (fun _ _ => .bool true) ys zs) = some bs ∧ bs.all id = true := by
      intro ys
      induction ys with
      | nil => intro zs; exact ⟨[], rfl, rfl⟩
      | cons y ys ih =>
        intro zs
        cases zs with
        | nil => exact ⟨[], rfl, rfl⟩
        | cons z zs =>
          obtain ⟨bs, e1, e2⟩ := ih zs
          exact ⟨true :: bs, by simp [boolsD, e1], by simpa using e2⟩
    intro ys zs
    obtain ⟨bs, e1, e2⟩ := this ys zs
    simp only [biW, e1, Option.map_some, e2]
  simp at this
  simp [F2, fn2, evFn, sl, this, bt]
end Pg
end
section
set_option Elab.async false
set_option linter.all false
set_option maxRecDepth 100000
namespace Pg
open PySem PySem.Spec PyProof.Rows L2 PySem.W FF
theorem all_true : ∀ n : Nat, biW .all [.list (List.replicate n (.bool true))] = some (.d (.bool true)) := by
  intro n
  have : boolsD (List.replicate n (.bool true)) = some (List.replicate n true) := by
    induction n with
    | zero => rfl
    | succ n ih => simp [List.replicate_succ, boolsD, ih]
  simp [biW, this]
/-- is_kind -/
theorem f4 (k : Kn) (h1 : k.name ∈ menu) (hp : ∀ p ∈ k.pairs, F3 [.d (pD p)] = .ok (.d (.bool true)) [.d (pD p)]) (l1 : 1 ≤ k.pairs.length) (l3 : k.pairs.length ≤ 3)
    (hc : F2 [.d (.tuple (k.pairs.map pD))] = .ok (.d (.bool true)) [.d (.tuple (k.pairs.map pD))]) (pl : (knD k).plain = true) (pl2 : PyData.plain (.tuple (k.pairs.map pD)) = true) :
    F4 [.d (knD k)] = .ok (.d (.bool true)) [.d (knD k)] := by
  have e1 := f1 _ h1
  have t1 : getL T4 1 = F1 := rfl
  have t2 : getL T4 2 = F2 := rfl
  have t3 : getL T4 3 = F3 := rfl
  have := lcDo_map (getL T4) (own := [1]) (t := .nm 1) (c := .nil) (e := .call 3 (.cons (.var 1) .nil))
    (f := fun _ => some (.bool true))
    (ρ := [.d (knD k), .un]) (xs := k.pairs.map pD) (by
      intro x hx
      obtain ⟨p, m, rfl⟩ := List.mem_map.mp hx
      exact ⟨[.d (knD k), .d (pD p)], by simp [lcTurn, t3, doCall, putOuts, hp p m], by simp⟩) [] (by have := sx; simp; omega)
  have fm : ∀ (ys : List (Int × Int)), List.filterMap ((fun x : D => some (PyData.bool true)) ∘ pD) ys = List.replicate ys.length (.bool true) := by
    intro ys
    induction ys with
    | nil => rfl
    | cons y ys ih => simp [ih, List.replicate_succ]
  simp [fm] at this
  have ty : isiW .tuple (knD k) = some (.d (.bool true)) := by simp [isiW, pl]; rfl
  have ty2 : isiW .tuple (.tuple (k.pairs.map pD)) = some (.d (.bool true)) := by simp [isiW, pl2]
  have tyb : isiW .bool (.bool k.level) = some (.d (.bool true)) := rfl
  have ln : biW .len [knD k] = some (.d (.int 3)) := rfl
  have ln2 : biW .len [.tuple (k.pairs.map pD)] = some (.d (.int k.pairs.length)) := by simp [biW]
  have i0 : idxD (knD k) (.int 0) = some (.str k.name) := idx0 _ _
  have i1 : idxD (knD k) (.int 1) = some (.tuple (k.pairs.map pD)) := idx1 _ _ _
  have i2 : idxD (knD k) (.int 2) = some (.bool k.level) := idx2 _ _ _ _
  have n3 : cmpD .ne (.int 3) (.int 3) = some false := rfl
  have a1 : (1 : Int) ≤ k.pairs.length := by omega
  have a3 : (k.pairs.length : Int) ≤ 3 := by omega
  simp [F4, fn4, evFn, t1, t2, t3, doCall, putOuts, e1, hc, ty, ty2, tyb, ln, ln2, i0, i1, i2, n3, a1, a3, this, all_true]
end Pg
end
section
set_option Elab.async false
set_option linter.all false
set_option maxRecDepth 100000
namespace Pg
open PySem PySem.Spec PyProof.Rows L2 PySem.W FF
/-- climbs on a list, where each is below the next -/
theorem f2_l (xs : List D) (hl : xs.length ≤ 1000) (sl : slcW (.list xs) (some 1) none = some (.ol (xs.drop 1)))
    (h : ∀ x ∈ List.zipWith (fun x y => (x, y)) xs (xs.drop 1), cmpD .lt x.1 x.2 = some true) :
    F2 [.d (.list xs)] = .ok (.d (.bool true)) [.d (.list xs)] := by
  have := lcDo_map (getL T2) (own := [1, 2]) (t := .tp (.cons (.nm 1) (.cons (.nm 2) .nil))) (c := .nil) (e := .cmp .lt (.var 1) (.var 2))
    (f := fun _ => some (.bool true))
    (ρ := [.d (.list xs), .un, .un]) (xs := List.zipWith (fun x y => .tuple [x, y]) xs (xs.drop 1)) (by
      intro x hx
      have e : List.zipWith (fun x y => PyData.tuple [x, y]) xs (xs.drop 1) = (List.zipWith (fun x y => (x, y)) xs (xs.drop 1)).map fun p => PyData.tuple [p.1, p.2] := by
        rw [List.map_zipWith]
      rw [e] at hx
      obtain ⟨p, hp, rfl⟩ := List.mem_map.mp hx
      exact ⟨[.d (.list xs), .d p.1, .d p.2], by simp [lcTurn, tsLen, h p hp], by simp⟩) [] (by have := sx; simp; omega)
  have bt : ∀ ys zs : List D, biW .all [.list (List.zipWith (fun _ _ => .bool true) ys zs)] = some (.d (.bool true)) := by
    have : ∀ ys zs : List D, ∃ bs : List Bool, boolsD (List.zipWith (fun _ _ => .bool true) ys zs) = some bs ∧ bs.all id = true := by
      intro ys
      induction ys with
      | nil => intro zs; exact ⟨[], rfl, rfl⟩
      | cons y ys ih =>
        intro zs
        cases zs with
        | nil => exact ⟨[], rfl, rfl⟩
        | cons z zs =>
          obtain ⟨bs, e1, e2⟩ := ih zs
          exact ⟨true :: bs, by simp [boolsD, e1], by simpa using e2⟩
    intro ys zs
    obtain ⟨bs, e1, e2⟩ := this ys zs
    simp only [biW, e1, Option.map_some, e2]
  simp at this
  simp [F2, fn2, evFn, sl, this, bt]
end Pg
end
section
set_option Elab.async false
set_option linter.all false
set_option maxRecDepth 100000
namespace Pg
open PySem PySem.Spec PyProof.Rows L2 PySem.W FF
/-- plainness -/
theorem plain_pairs (ps : List (Int × Int)) : PyData.plain (.tuple (ps.map pD)) = true := by
  have : ∀ ps : List (Int × Int), PyData.plainAll (ps.map pD) = true := by
    intro ps
    induction ps with
    | nil => rfl
    | cons p ps ih =>
      have : (pD p).plain = true := rfl
      simp [PyData.plainAll, ih, this]
  simpa [PyData.plain] using this ps
theorem plain_kn (k : Kn) : (knD k).plain = true := by
  have := plain_pairs k.pairs
  simp [knD, PyData.plain, PyData.plainAll] at this ⊢
  exact this
theorem plain_bk (b : Bk) : (bkD b).plain = true := by
  have : ∀ ks : List Kn, PyData.plainAll (ks.map knD) = true := by
    intro ks
    induction ks with
    | nil => rfl
    | cons p ps ih => simp [PyData.plainAll, ih, plain_kn p]
  simp [bkD, PyData.plain, PyData.plainAll, this b.ks]
end Pg
end
section
set_option Elab.async false
set_option linter.all false
/-! MA: the search by levels, plainly. -/
namespace Bf
variable {σ π : Type} [DecidableEq σ]
abbrev Tab (σ π : Type) := List (σ × List π)
def keys (f : Tab σ π) : List σ := f.map (·.1)
def look (f : Tab σ π) (s : σ) : List π := ((f.find? fun e => decide (e.1 = s)).map (·.2)).getD []
def inn (next : σ → π → Option σ) (s : σ) : List π → Tab σ π → List σ → Sum (List π) (Tab σ π × List σ)
  | [], f, l => .inr (f, l)
  | p :: ps, f, l => match next s p with
    | none => .inl (look f s ++ [p])
    | some s' => if s' ∈ keys f then inn next s ps f l else inn next s ps (f ++ [(s', look f s ++ [p])]) (l ++ [s'])
def rowL (next : σ → π → Option σ) (P : List π) : List σ → Tab σ π → List σ → Sum (List π) (Tab σ π × List σ)
  | [], f, l => .inr (f, l)
  | s :: ss, f, l => match inn next s P f l with
    | .inl t => .inl t
    | .inr (f', l') => rowL next P ss f' l'
def bfs (next : σ → π → Option σ) (P : List π) : Nat → Tab σ π → List σ → Option (Option (List π))
  | 0, _, _ => none
  | n + 1, f, row => if row = [] then some none else match rowL next P row f [] with
    | .inl t => some (some t)
    | .inr (f', l') => bfs next P n f' l'
def run (next : σ → π → Option σ) : σ → List π → Option σ
  | s, [] => some s
  | s, p :: ps => match next s p with
    | none => none
    | some s' => run next s' ps
variable {next : σ → π → Option σ} {P : List π}
theorem run_snoc (s : σ) (u : List π) (p : π) : run next s (u ++ [p]) = (run next s u).bind fun s' => next s' p := by
  induction u generalizing s with
  | nil => simp [run]; cases next s p <;> rfl
  | cons q u ih =>
    simp only [List.cons_append, run]
    cases next s q with
    | none => rfl
    | some s' => exact ih s'
theorem run_take {s : σ} {u : List π} (h : (run next s u).isSome) (n : Nat) : (run next s (u.take n)).isSome := by
  induction u generalizing s n with
  | nil => simpa using h
  | cons q u ih =>
    cases n with
    | zero => simp [run]
    | succ n =>
      simp only [run, List.take_succ_cons] at h ⊢
      cases e : next s q with
      | none => simp [e] at h
      | some s' => simp only [e] at h ⊢; exact ih h n
theorem keys_append (f g : Tab σ π) : keys (f ++ g) = keys f ++ keys g := by simp [keys]
theorem look_append {f : Tab σ π} {s : σ} (h : s ∈ keys f) (g : Tab σ π) : look (f ++ g) s = look f s := by
  have : (f.find? fun e => decide (e.1 = s)).isSome := by
    simp only [keys, List.mem_map] at h
    obtain ⟨e, m, q⟩ := h
    rw [List.find?_isSome]
    exact ⟨e, m, by simpa using q⟩
  simp only [look, List.find?_append]
  obtain ⟨x, hx⟩ := Option.isSome_iff_exists.mp this
  simp [hx]
theorem look_mem {f : Tab σ π} {s : σ} (h : s ∈ keys f) : (s, look f s) ∈ f := by
  simp only [keys, List.mem_map] at h
  obtain ⟨e, m, q⟩ := h
  have : (f.find? fun e => decide (e.1 = s)).isSome := by
    rw [List.find?_isSome]
    exact ⟨e, m, by simpa using q⟩
  obtain ⟨x, hx⟩ := Option.isSome_iff_exists.mp this
  have h1 := List.mem_of_find?_eq_some hx
  have h2 := List.find?_some hx
  simp at h2
  simp only [look, hx, Option.map_some, Option.getD_some]
  rw [← h2]
  exact h1
/-- what one row's walk leaves -/
structure Out (next : σ → π → Option σ) (P : List π) (ss : List σ) (f : Tab σ π) (l : List σ) (f' : Tab σ π) (l' : List σ) : Prop where
  ext : ∃ g : Tab σ π, f' = f ++ g ∧ l' = l ++ keys g ∧ (∀ e ∈ g, ∃ s ∈ ss, ∃ p ∈ P, next s p = some e.1 ∧ e.2 = look f s ++ [p])
  nd : (keys f').Nodup
  cl : ∀ s ∈ ss, ∀ p ∈ P, ∃ s', next s p = some s' ∧ s' ∈ keys f'
theorem inn_inr {s : σ} : ∀ {ps : List π} {f : Tab σ π} {l : List σ} {f' : Tab σ π} {l' : List σ}, inn next s ps f l = .inr (f', l') → s ∈ keys f → (keys f).Nodup → Out next ps [s] f l f' l' := by
  intro ps
  induction ps with
  | nil =>
    intro f l f' l' h hs nd
    simp only [inn, Sum.inr.injEq, Prod.mk.injEq] at h
    obtain ⟨rfl, rfl⟩ := h
    exact ⟨⟨[], by simp, by simp [keys], by simp⟩, nd, by simp⟩
  | cons p ps ih =>
    intro f l f' l' h hs nd
    simp only [inn] at h
    split at h
    · cases h
    · next s' e =>
      split at h
      · next m =>
        obtain ⟨⟨g, e1, e2, e3⟩, n2, c⟩ := ih h hs nd
        refine ⟨⟨g, e1, e2, ?_⟩, n2, ?_⟩
        · intro x hx
          obtain ⟨s1, m1, p1, m2, q⟩ := e3 x hx
          exact ⟨s1, m1, p1, .tail _ m2, q⟩
        · intro s1 m1 p1 m2
          cases m2 with
          | head =>
            simp only [List.mem_singleton] at m1
            subst m1
            exact ⟨s', e, by rw [e1, keys_append]; exact List.mem_append_left _ m⟩
          | tail _ m2 => exact c s1 m1 p1 m2
      · next m =>
        have hs' : s ∈ keys (f ++ [(s', look f s ++ [p])]) := by rw [keys_append]; exact List.mem_append_left _ hs
        have nd' : (keys (f ++ [(s', look f s ++ [p])])).Nodup := by
          rw [keys_append, List.nodup_append]
          refine ⟨nd, by simp [keys], ?_⟩
          intro a ha b hb
          simp [keys] at hb
          subst hb
          intro q
          subst q
          exact m ha
        obtain ⟨⟨g, e1, e2, e3⟩, n2, c⟩ := ih h hs' nd'
        refine ⟨⟨(s', look f s ++ [p]) :: g, by simp [e1], by simp [e2, keys], ?_⟩, n2, ?_⟩
        · intro x hx
          cases hx with
          | head => exact ⟨s, by simp, p, .head _, e, rfl⟩
          | tail _ hx =>
            obtain ⟨s1, m1, p1, m2, q1, q2⟩ := e3 x hx
            simp only [List.mem_singleton] at m1
            subst m1
            rw [look_append hs] at q2
            exact ⟨s1, by simp, p1, .tail _ m2, q1, q2⟩
        · intro s1 m1 p1 m2
          cases m2 with
          | head =>
            simp only [List.mem_singleton] at m1
            subst m1
            refine ⟨s', e, ?_⟩
            rw [e1, keys_append, keys_append]
            exact List.mem_append_left _ (List.mem_append_right _ (by simp [keys]))
          | tail _ m2 => exact c s1 m1 p1 m2
theorem inn_inl {s : σ} {t : List π} : ∀ {ps : List π} {f : Tab σ π} {l : List σ}, inn next s ps f l = .inl t → s ∈ keys f → ∃ p ∈ ps, next s p = none ∧ t = look f s ++ [p] := by
  intro ps
  induction ps with
  | nil => intro f l h; simp [inn] at h
  | cons p ps ih =>
    intro f l h hs
    simp only [inn] at h
    split at h
    · next e =>
      cases h
      exact ⟨p, .head _, e, rfl⟩
    · split at h
      · obtain ⟨p', m, q⟩ := ih h hs
        exact ⟨p', .tail _ m, q⟩
      · obtain ⟨p', m, q1, q2⟩ := ih h (by rw [keys_append]; exact List.mem_append_left _ hs)
        rw [look_append hs] at q2
        exact ⟨p', .tail _ m, q1, q2⟩
theorem rowL_inr : ∀ {ss : List σ} {f : Tab σ π} {l : List σ} {f' : Tab σ π} {l' : List σ}, rowL next P ss f l = .inr (f', l') → (∀ s ∈ ss, s ∈ keys f) → (keys f).Nodup → Out next P ss f l f' l' := by
  intro ss
  induction ss with
  | nil =>
    intro f l f' l' h hs nd
    simp only [rowL, Sum.inr.injEq, Prod.mk.injEq] at h
    obtain ⟨rfl, rfl⟩ := h
    exact ⟨⟨[], by simp, by simp [keys], by simp⟩, nd, by simp⟩
  | cons s ss ih =>
    intro f l f' l' h hs nd
    simp only [rowL] at h
    split at h
    · cases h
    · next f1 l1 e =>
      obtain ⟨⟨g1, a1, a2, a3⟩, n1, c1⟩ := inn_inr e (hs s (.head _)) nd
      obtain ⟨⟨g2, b1, b2, b3⟩, n2, c2⟩ := ih h (by intro s' m; rw [a1, keys_append]; exact List.mem_append_left _ (hs s' (.tail _ m))) n1
      refine ⟨⟨g1 ++ g2, by rw [b1, a1, List.append_assoc], by rw [b2, a2, keys_append, List.append_assoc], ?_⟩, n2, ?_⟩
      · intro x hx
        rcases List.mem_append.mp hx with hx | hx
        · obtain ⟨s1, m1, p1, m2, q⟩ := a3 x hx
          simp only [List.mem_singleton] at m1
          subst m1
          exact ⟨s1, .head _, p1, m2, q⟩
        · obtain ⟨s1, m1, p1, m2, q1, q2⟩ := b3 x hx
          rw [a1, look_append (hs s1 (.tail _ m1))] at q2
          exact ⟨s1, .tail _ m1, p1, m2, q1, q2⟩
      · intro s1 m1 p1 m2
        cases m1 with
        | head =>
          obtain ⟨s', q1, q2⟩ := c1 s (by simp) p1 m2
          exact ⟨s', q1, by rw [b1, keys_append]; exact List.mem_append_left _ q2⟩
        | tail _ m1 => exact c2 s1 m1 p1 m2
theorem rowL_inl {t : List π} : ∀ {ss : List σ} {f : Tab σ π} {l : List σ}, rowL next P ss f l = .inl t → (∀ s ∈ ss, s ∈ keys f) → (keys f).Nodup → ∃ s ∈ ss, ∃ p ∈ P, next s p = none ∧ t = look f s ++ [p] := by
  intro ss
  induction ss with
  | nil => intro f l h; simp [rowL] at h
  | cons s ss ih =>
    intro f l h hs nd
    simp only [rowL] at h
    split at h
    · next t' e =>
      cases h
      obtain ⟨p, m, q⟩ := inn_inl e (hs s (.head _))
      exact ⟨s, .head _, p, m, q⟩
    · next f1 l1 e =>
      obtain ⟨⟨g1, a1, a2, a3⟩, n1, c1⟩ := inn_inr e (hs s (.head _)) nd
      obtain ⟨s', m', p, m, q1, q2⟩ := ih h (by intro s' m; rw [a1, keys_append]; exact List.mem_append_left _ (hs s' (.tail _ m))) n1
      rw [a1, look_append (hs s' (.tail _ m'))] at q2
      exact ⟨s', .tail _ m', p, m, q1, q2⟩
/-- what holds ahead of level k -/
structure J (next : σ → π → Option σ) (P : List π) (s0 : σ) (k : Nat) (f : Tab σ π) (row : List σ) : Prop where
  nd : (keys f).Nodup
  runs : ∀ e ∈ f, run next s0 e.2 = some e.1 ∧ ∀ p ∈ e.2, p ∈ P
  sub : ∀ s ∈ row, s ∈ keys f
  len : ∀ s ∈ row, (look f s).length = k
  cl : ∀ s ∈ keys f, s ∉ row → ∀ p ∈ P, ∃ s', next s p = some s' ∧ s' ∈ keys f
  lev : ∀ u : List π, (∀ p ∈ u, p ∈ P) → u.length ≤ k → ∃ s ∈ keys f, run next s0 u = some s
theorem look_eq {f : Tab σ π} (nd : (keys f).Nodup) {e : σ × List π} (h : e ∈ f) : look f e.1 = e.2 := by
  induction f with
  | nil => cases h
  | cons a f ih =>
    simp only [keys, List.map_cons, List.nodup_cons] at nd
    cases h with
    | head => simp [look]
    | tail _ h =>
      have : a.1 ≠ e.1 := fun q => nd.1 (by rw [q]; exact List.mem_map_of_mem h)
      have e2 := ih nd.2 h
      simp only [look, List.find?_cons, this, decide_false] at e2 ⊢
      exact e2
theorem J.step {s0 : σ} {k : Nat} {f f' : Tab σ π} {row l' : List σ} (j : J next P s0 k f row) (h : rowL next P row f [] = .inr (f', l')) : J next P s0 (k + 1) f' l' := by
  obtain ⟨⟨g, e1, e2, e3⟩, n2, c⟩ := rowL_inr h j.sub j.nd
  simp only [List.nil_append] at e2
  have mono : ∀ s, s ∈ keys f → s ∈ keys f' := fun s m => by rw [e1, keys_append]; exact List.mem_append_left _ m
  have ent : ∀ e ∈ g, ∃ s ∈ row, ∃ p ∈ P, next s p = some e.1 ∧ e.2 = look f s ++ [p] := e3
  refine ⟨n2, ?_, ?_, ?_, ?_, ?_⟩
  · intro e m
    rw [e1] at m
    rcases List.mem_append.mp m with m | m
    · exact j.runs e m
    · obtain ⟨s, m1, p, m2, q1, q2⟩ := ent e m
      have := j.runs _ (look_mem (j.sub s m1))
      refine ⟨?_, ?_⟩
      · rw [q2, run_snoc, this.1]; exact q1
      · intro p' hp
        rw [q2] at hp
        rcases List.mem_append.mp hp with hp | hp
        · exact this.2 p' hp
        · simp at hp; rw [hp]; exact m2
  · intro s m
    rw [e1, keys_append]
    exact List.mem_append_right _ (e2 ▸ m)
  · intro s m
    rw [e2] at m
    simp only [keys, List.mem_map] at m
    obtain ⟨e, m, rfl⟩ := m
    have : e ∈ f' := by rw [e1]; exact List.mem_append_right _ m
    rw [look_eq n2 this]
    obtain ⟨s, m1, p, m2, q1, q2⟩ := ent e m
    rw [q2]
    simp [j.len s m1]
  · intro s m nl p hp
    rw [e1, keys_append] at m
    rcases List.mem_append.mp m with m | m
    · by_cases r : s ∈ row
      · exact c s r p hp
      · obtain ⟨s', q1, q2⟩ := j.cl s m r p hp
        exact ⟨s', q1, mono _ q2⟩
    · exact absurd (e2 ▸ m) nl
  · intro u hu hl
    by_cases hk : u.length ≤ k
    · obtain ⟨s, m, q⟩ := j.lev u hu hk
      exact ⟨s, mono _ m, q⟩
    · have hne : u ≠ [] := by intro q; simp [q] at hk
      have e4 : u = u.dropLast ++ [u.getLast hne] := (List.dropLast_concat_getLast hne).symm
      have hu1 : ∀ p ∈ u.dropLast, p ∈ P := fun p m => hu p (List.dropLast_subset u m)
      have hp : u.getLast hne ∈ P := hu _ (List.getLast_mem hne)
      obtain ⟨s, m, q⟩ := j.lev u.dropLast hu1 (by simp; omega)
      have : ∃ s', next s (u.getLast hne) = some s' ∧ s' ∈ keys f' := by
        by_cases r : s ∈ row
        · exact c s r _ hp
        · obtain ⟨s', q1, q2⟩ := j.cl s m r _ hp
          exact ⟨s', q1, mono _ q2⟩
      obtain ⟨s', q1, q2⟩ := this
      exact ⟨s', q2, by rw [e4, run_snoc, q]; exact q1⟩
/-- the answer -/
structure Ans (next : σ → π → Option σ) (P : List π) (s0 : σ) (r : Option (List π)) : Prop where
  none_ : r = none → ∀ u : List π, (∀ p ∈ u, p ∈ P) → (run next s0 u).isSome
  some_ : ∀ t, r = some t → t ≠ [] ∧ (∀ p ∈ t, p ∈ P) ∧ run next s0 t = none ∧ (∀ u : List π, (∀ p ∈ u, p ∈ P) → u.length < t.length → (run next s0 u).isSome)
theorem closed_all {s0 : σ} {f : Tab σ π} (h0 : s0 ∈ keys f) (c : ∀ s ∈ keys f, ∀ p ∈ P, ∃ s', next s p = some s' ∧ s' ∈ keys f) : ∀ u : List π, (∀ p ∈ u, p ∈ P) → (run next s0 u).isSome := by
  intro u
  induction u generalizing s0 with
  | nil => intro _; rfl
  | cons p u ih =>
    intro hu
    obtain ⟨s', q1, q2⟩ := c s0 h0 p (hu p (.head _))
    simp only [run, q1]
    exact ih q2 (fun p' m => hu p' (.tail _ m))
theorem bfs_ans {s0 : σ} : ∀ {n k : Nat} {f : Tab σ π} {row : List σ} {r : Option (List π)}, J next P s0 k f row → bfs next P n f row = some r → Ans next P s0 r := by
  intro n
  induction n with
  | zero => intro k f row r j h; simp [bfs] at h
  | succ n ih =>
    intro k f row r j h
    simp only [bfs] at h
    split at h
    · next e =>
      cases h
      refine ⟨fun _ => ?_, by simp⟩
      obtain ⟨s, m, q⟩ := j.lev [] (by simp) (by simp)
      simp [run] at q
      subst q
      exact closed_all m fun s m p hp => j.cl s m (by simp [e]) p hp
    · split at h
      · next t e =>
        cases h
        refine ⟨by simp, ?_⟩
        intro t' e'
        cases e'
        obtain ⟨s, m, p, hp, q1, q2⟩ := rowL_inl e j.sub j.nd
        have := j.runs _ (look_mem (j.sub s m))
        have ln := j.len s m
        refine ⟨by simp [q2], ?_, ?_, ?_⟩
        · intro p' hp'
          rw [q2] at hp'
          rcases List.mem_append.mp hp' with hp' | hp'
          · exact this.2 p' hp'
          · simp at hp'; rw [hp']; exact hp
        · rw [q2, run_snoc, this.1]; exact q1
        · intro u hu hl
          rw [q2] at hl
          simp [ln] at hl
          obtain ⟨s', m', q⟩ := j.lev u hu (by omega)
          simp [q]
      · next f' l' e => exact ih (j.step e) h
/-- it comes to an end -/
structure Good (All : List σ) (f : Tab σ π) : Prop where
  nd : (keys f).Nodup
  sub : ∀ s ∈ keys f, s ∈ All
  short : ∀ e ∈ f, e.2.length < f.length
theorem nodup_le {α : Type} [DecidableEq α] : ∀ {xs ys : List α}, xs.Nodup → (∀ x ∈ xs, x ∈ ys) → xs.length ≤ ys.length
  | [], _, _, _ => by simp
  | x :: xs, ys, nd, h => by
    simp only [List.nodup_cons] at nd
    have hx := h x (.head _)
    have := nodup_le (xs := xs) (ys := ys.erase x) nd.2 (fun y m => (List.mem_erase_of_ne (fun q => nd.1 (by rw [← q]; exact m))).mpr (h y (.tail _ m)))
    have hl := List.length_erase_of_mem hx
    have : 0 < ys.length := List.length_pos_of_mem hx
    simp only [List.length_cons]
    omega
theorem Good.len {All : List σ} {f : Tab σ π} (g : Good All f) : f.length ≤ All.length := by
  have := nodup_le g.nd g.sub
  simpa [keys] using this
theorem Good.one {All : List σ} {f : Tab σ π} (g : Good All f) {s s' : σ} (hs : s ∈ keys f) (m : s' ∉ keys f) (ha : s' ∈ All) (p : π) : Good All (f ++ [(s', look f s ++ [p])]) := by
  refine ⟨?_, ?_, ?_⟩
  · rw [keys_append, List.nodup_append]
    refine ⟨g.nd, by simp [keys], ?_⟩
    intro a ka b hb
    simp [keys] at hb
    subst hb
    intro q
    subst q
    exact m ka
  · intro x hx
    rw [keys_append] at hx
    rcases List.mem_append.mp hx with hx | hx
    · exact g.sub x hx
    · simp [keys] at hx; rw [hx]; exact ha
  · intro e he
    simp only [List.length_append, List.length_singleton]
    rcases List.mem_append.mp he with he | he
    · have := g.short e he; omega
    · simp only [List.mem_singleton] at he
      subst he
      have := g.short _ (look_mem hs)
      simp at this ⊢
      omega
theorem inn_good {All : List σ} (hn : ∀ s ∈ All, ∀ p ∈ P, ∀ s', next s p = some s' → s' ∈ All) {s : σ} (hA : s ∈ All) : ∀ {ps : List π} {f : Tab σ π} {l : List σ} {f' : Tab σ π} {l' : List σ}, (∀ p ∈ ps, p ∈ P) → inn next s ps f l = .inr (f', l') → s ∈ keys f → Good All f → Good All f' := by
  intro ps
  induction ps with
  | nil => intro f l f' l' _ h hs g; simp [inn] at h; rw [← h.1]; exact g
  | cons p ps ih =>
    intro f l f' l' hp h hs g
    simp only [inn] at h
    split at h
    · cases h
    · next s' e =>
      split at h
      · exact ih (fun q m => hp q (.tail _ m)) h hs g
      · next m => exact ih (fun q m => hp q (.tail _ m)) h (by rw [keys_append]; exact List.mem_append_left _ hs) (g.one hs m (hn s hA p (hp p (.head _)) s' e) p)
theorem rowL_good {All : List σ} (hn : ∀ s ∈ All, ∀ p ∈ P, ∀ s', next s p = some s' → s' ∈ All) : ∀ {ss : List σ} {f : Tab σ π} {l : List σ} {f' : Tab σ π} {l' : List σ}, rowL next P ss f l = .inr (f', l') → (∀ s ∈ ss, s ∈ keys f) → Good All f → Good All f' := by
  intro ss
  induction ss with
  | nil => intro f l f' l' h hs g; simp [rowL] at h; rw [← h.1]; exact g
  | cons s ss ih =>
    intro f l f' l' h hs g
    simp only [rowL] at h
    split at h
    · cases h
    · next f1 l1 e =>
      have g1 := inn_good hn (g.sub s (hs s (.head _))) (fun _ m => m) e (hs s (.head _)) g
      obtain ⟨⟨g2, a1, a2, a3⟩, n1, c1⟩ := inn_inr e (hs s (.head _)) g.nd
      exact ih h (by intro s' m; rw [a1, keys_append]; exact List.mem_append_left _ (hs s' (.tail _ m))) g1
theorem bfs_some {All : List σ} (hn : ∀ s ∈ All, ∀ p ∈ P, ∀ s', next s p = some s' → s' ∈ All) : ∀ {n : Nat} {f : Tab σ π} {row : List σ}, Good All f → (∀ s ∈ row, s ∈ keys f) → (All.length - f.length) + 2 ≤ n → ∃ r, bfs next P n f row = some r := by
  intro n
  induction n with
  | zero => intro f row g hs hl; omega
  | succ n ih =>
    intro f row g hs hl
    simp only [bfs]
    split
    · exact ⟨_, rfl⟩
    · split
      · exact ⟨_, rfl⟩
      · next f' l' e =>
        have g1 := rowL_good hn e hs g
        obtain ⟨⟨g2, a1, a2, a3⟩, n1, c1⟩ := rowL_inr e hs g.nd
        simp only [List.nil_append] at a2
        have hs' : ∀ s ∈ l', s ∈ keys f' := by
          intro s m
          rw [a1, keys_append]
          exact List.mem_append_right _ (a2 ▸ m)
        cases n with
        | zero => have := g.len; omega
        | succ n =>
          by_cases q : l' = []
          · subst q
            exact ⟨none, by simp [bfs]⟩
          · refine ih g1 hs' ?_
            have l1 := g1.len
            have : f'.length = f.length + g2.length := by rw [a1]; simp
            have : 0 < g2.length := by
              rw [a2] at q
              cases g2 with
              | nil => simp [keys] at q
              | cons _ _ => simp
            omega
theorem bfs_len {All : List σ} (hn : ∀ s ∈ All, ∀ p ∈ P, ∀ s', next s p = some s' → s' ∈ All) : ∀ {n : Nat} {f : Tab σ π} {row : List σ} {t : List π}, Good All f → (∀ s ∈ row, s ∈ keys f) → bfs next P n f row = some (some t) → t.length ≤ All.length := by
  intro n
  induction n with
  | zero => intro f row t g hs h; simp [bfs] at h
  | succ n ih =>
    intro f row t g hs h
    simp only [bfs] at h
    split at h
    · cases h
    · split at h
      · next t' e =>
        cases h
        obtain ⟨s, m, p, hp, q1, q2⟩ := rowL_inl e hs g.nd
        have := g.short _ (look_mem (hs s m))
        have := g.len
        simp only at *
        rw [q2]
        simp
        omega
      · next f' l' e =>
        have g1 := rowL_good hn e hs g
        obtain ⟨⟨g2, a1, a2, a3⟩, n1, c1⟩ := rowL_inr e hs g.nd
        simp only [List.nil_append] at a2
        refine ih g1 ?_ h
        intro s m
        rw [a1, keys_append]
        exact List.mem_append_right _ (a2 ▸ m)
theorem J.init (s0 : σ) : J next P s0 0 [(s0, [])] [s0] := by
  refine ⟨by simp [keys], by simp [run], by simp [keys], by simp [look], ?_, ?_⟩
  · intro s m n; simp [keys] at m; simp [m] at n
  · intro u _ hl
    have : u = [] := by cases u with
      | nil => rfl
      | cons _ _ => simp at hl
    exact ⟨s0, by simp [keys], by simp [this, run]⟩
theorem Good.init {All : List σ} {s0 : σ} (h : s0 ∈ All) : Good All ([(s0, [])] : Tab σ π) := ⟨by simp [keys], by simp [keys, h], by simp⟩
theorem bfs_full {All : List σ} {s0 : σ} (hn : ∀ s ∈ All, ∀ p ∈ P, ∀ s', next s p = some s' → s' ∈ All) (h : s0 ∈ All) {n : Nat} (hl : All.length + 2 ≤ n) :
    ∃ r, bfs next P n [(s0, [])] [s0] = some r ∧ Ans next P s0 r := by
  obtain ⟨r, e⟩ := bfs_some hn (Good.init h) (n := n) (row := [s0]) (by simp [keys]) (by simp; omega)
  exact ⟨r, e, bfs_ans (J.init s0) e⟩
end Bf
end
section
set_option Elab.async false
set_option linter.all false
/-! MB: where a part begins, plainly. -/
namespace Bf
def bg (h lt l r : Int) (hd lv : Bool) : Int × Int :=
  let q := if lv || decide (lt < (if r - l < 0 then -(r - l) else r - l)) then (if r > l then r else l, if r > l then r else l) else (l, r)
  if hd && decide (q.1.fdiv h < q.2.fdiv h) then (q.2.fdiv h * h, q.2)
  else if hd && decide (q.2.fdiv h < q.1.fdiv h) then (q.1, q.1.fdiv h * h)
  else q
def mx (l r : Int) : Int := if r > l then r else l
/-- rule 1 -/
def b1 (lt l r : Int) (lv : Bool) : Int × Int := if lv = true ∨ lt < r - l ∨ lt < l - r then (mx l r, mx l r) else (l, r)
/-- rule 2 -/
def b2 (h : Int) (hd : Bool) (q : Int × Int) : Int × Int :=
  if hd = true ∧ q.1 / h < q.2 / h then (q.2 / h * h, q.2) else if hd = true ∧ q.2 / h < q.1 / h then (q.1, q.1 / h * h) else q
theorem bg_eq (h lt l r : Int) (hd lv : Bool) (h2 : 2 ≤ h) (l0 : 0 ≤ lt) : bg h lt l r hd lv = b2 h hd (b1 lt l r lv) := by
  have e : ∀ x : Int, x.fdiv h = x / h := fun x => Int.fdiv_eq_ediv_of_nonneg x (by omega)
  have c : (lv || decide (lt < (if r - l < 0 then -(r - l) else r - l))) = true ↔ (lv = true ∨ lt < r - l ∨ lt < l - r) := by
    simp only [Bool.or_eq_true, decide_eq_true_eq]
    constructor
    · rintro (a | a)
      · exact .inl a
      · split at a <;> omega
    · rintro (a | a | a)
      · exact .inl a
      · right; split <;> omega
      · right; split <;> omega
  have m : ∀ x y : Int, (if x > y then x else y) = mx y x := fun _ _ => rfl
  have fin : ∀ q : Int × Int, (if (hd && decide (q.1.fdiv h < q.2.fdiv h)) = true then (q.2.fdiv h * h, q.2) else if (hd && decide (q.2.fdiv h < q.1.fdiv h)) = true then (q.1, q.1.fdiv h * h) else q) = b2 h hd q := by
    intro q
    simp only [b2, e]
    cases hd <;> by_cases c1 : q.1 / h < q.2 / h <;> by_cases c2 : q.2 / h < q.1 / h <;> simp [c1, c2]
  have st : (if (lv || decide (lt < (if r - l < 0 then -(r - l) else r - l))) = true then ((if r > l then r else l), (if r > l then r else l)) else (l, r)) = b1 lt l r lv := by
    by_cases d : (lv = true ∨ lt < r - l ∨ lt < l - r)
    · rw [if_pos (c.mpr d), b1, if_pos d]; rfl
    · rw [if_neg (fun x => d (c.mp x)), b1, if_neg d]
  rw [← st, ← fin]
  rfl
theorem b1_shift (lt l r c : Int) (lv : Bool) : b1 lt (l + c) (r + c) lv = ((b1 lt l r lv).1 + c, (b1 lt l r lv).2 + c) := by
  have e1 : r + c - (l + c) = r - l := by omega
  have e2 : l + c - (r + c) = l - r := by omega
  have e3 : mx (l + c) (r + c) = mx l r + c := by simp only [mx]; split <;> split <;> omega
  simp only [b1, e1, e2, e3]
  split <;> rfl
theorem b2_shift (h k : Int) (hd : Bool) (q : Int × Int) (h2 : 2 ≤ h) : b2 h hd (q.1 + h * k, q.2 + h * k) = ((b2 h hd q).1 + h * k, (b2 h hd q).2 + h * k) := by
  have e : ∀ x : Int, (x + h * k) / h = x / h + k := fun x => Int.add_mul_ediv_left x k (by omega)
  have f1 : ∀ x y : Int, (x + k < y + k) ↔ x < y := fun x y => by omega
  have f2 : ∀ x : Int, (x + k) * h = x * h + h * k := fun x => by rw [Int.add_mul, Int.mul_comm k h]
  simp only [b2, e, f1, f2]
  split
  · rfl
  · split <;> rfl
theorem b1_swap (lt l r : Int) (lv : Bool) : b1 lt r l lv = ((b1 lt l r lv).2, (b1 lt l r lv).1) := by
  have e3 : mx r l = mx l r := by simp only [mx]; split <;> split <;> omega
  have e4 : (lv = true ∨ lt < l - r ∨ lt < r - l) ↔ (lv = true ∨ lt < r - l ∨ lt < l - r) := by
    constructor
    · rintro (a | a | a)
      · exact .inl a
      · exact .inr (.inr a)
      · exact .inr (.inl a)
    · rintro (a | a | a)
      · exact .inl a
      · exact .inr (.inr a)
      · exact .inr (.inl a)
  simp only [b1, e3, e4]
  split <;> rfl
theorem b2_swap (h : Int) (hd : Bool) (l r : Int) : b2 h hd (r, l) = ((b2 h hd (l, r)).2, (b2 h hd (l, r)).1) := by
  simp only [b2]
  by_cases c1 : hd = true ∧ l / h < r / h
  · have : ¬ (hd = true ∧ r / h < l / h) := fun x => by omega
    rw [if_neg this, if_pos c1, if_pos c1]
  · by_cases c2 : hd = true ∧ r / h < l / h
    · rw [if_pos c2, if_neg c1, if_pos c2]
    · rw [if_neg c2, if_neg c1, if_neg c1, if_neg c2]
theorem b1_drift (lt l r : Int) (lv : Bool) (h0 : 0 ≤ lt) : - lt ≤ (b1 lt l r lv).2 - (b1 lt l r lv).1 ∧ (b1 lt l r lv).2 - (b1 lt l r lv).1 ≤ lt := by
  simp only [b1]
  split
  · simp; omega
  · next c => simp only; refine ⟨?_, ?_⟩ <;> (apply Int.not_lt.mp; intro x; apply c; omega)
theorem b2_drift (h lt : Int) (hd : Bool) (q : Int × Int) (h2 : 2 ≤ h) (h0 : 0 ≤ lt) (a : - lt ≤ q.2 - q.1) (b : q.2 - q.1 ≤ lt) : - lt ≤ (b2 h hd q).2 - (b2 h hd q).1 ∧ (b2 h hd q).2 - (b2 h hd q).1 ≤ lt := by
  have k : ∀ x y : Int, x / h < y / h → x ≤ y / h * h ∧ y / h * h ≤ y := by
    intro x y c
    have a1 := Int.emod_nonneg x (show h ≠ 0 by omega)
    have a2 := Int.emod_lt_of_pos x (show 0 < h by omega)
    have a3 := Int.emod_nonneg y (show h ≠ 0 by omega)
    have e1 := Int.mul_ediv_add_emod x h
    have e2 := Int.mul_ediv_add_emod y h
    have a4 : h * (x / h + 1) ≤ h * (y / h) := Int.mul_le_mul_of_nonneg_left (by omega) (by omega)
    rw [Int.mul_add] at a4
    rw [Int.mul_comm (y / h) h]
    omega
  simp only [b2]
  split
  · next c => have := k _ _ c.2; simp only; omega
  · split
    · next c => have := k _ _ c.2; simp only; omega
    · exact ⟨a, b⟩
end Bf
end
section
set_option Elab.async false
set_option linter.all false
set_option maxRecDepth 100000
namespace Pg
open PySem PySem.Spec PyProof.Rows L2 PySem.W FF
def menus : List (List Str) := [["a"], ["a", "b"], ["a", "b", "c"], ["note"], ["note", "text"], ["note", "text", "verse"], ["kind"], ["kind", "level"], ["kind", "level", "pages"], ["b"], ["b", "bb"], ["b", "bb", "zzzzzzzz"]]
def pLt (p q : Int × Int) : Bool := decide (p.1 < q.1) || (decide (p.1 = q.1) && decide (p.2 < q.2))
structure WK (k : Kn) : Prop where
  l1 : 1 ≤ k.pairs.length
  l3 : k.pairs.length ≤ 3
  pr : ∀ p ∈ k.pairs, 0 ≤ p.1 ∧ p.1 ≤ 4 ∧ 0 ≤ p.2 ∧ p.2 ≤ 4 ∧ p ≠ (0, 0)
  asc : k.pairs.Pairwise fun p q => pLt p q = true
structure WF (b : Bk) : Prop where
  h2 : 2 ≤ b.h
  h6 : b.h ≤ 6
  l0 : 0 ≤ b.l
  l4 : b.l ≤ 4
  names : b.ks.map (·.name) ∈ menus
  k : ∀ k ∈ b.ks, WK k
  tot : (b.ks.map fun k => k.pairs.length).sum ≤ 6
theorem mem_parts {ks : List Kn} {p : Pt} : p ∈ partsOf ks ↔ ∃ k ∈ ks, p.name = k.name ∧ (p.l, p.r) ∈ k.pairs := by
  simp only [partsOf, List.mem_flatten, List.mem_map]
  constructor
  · rintro ⟨l, ⟨k, m, rfl⟩, hp⟩
    simp only [partsK, List.mem_map] at hp
    obtain ⟨x, hx, rfl⟩ := hp
    exact ⟨k, m, rfl, hx⟩
  · rintro ⟨k, m, e, hp⟩
    refine ⟨_, ⟨k, m, rfl⟩, ?_⟩
    simp only [partsK, List.mem_map]
    exact ⟨_, hp, by cases p; simp_all⟩
theorem parts_len (ks : List Kn) : (partsOf ks).length = (ks.map fun k => k.pairs.length).sum := by
  induction ks with
  | nil => rfl
  | cons k ks ih => simp [partsOf, partsK] at ih ⊢; exact ih
theorem part_kind {ks : List Kn} {p : Pt} (h : p ∈ partsOf ks) : (fkind ks p.name).isSome := by
  obtain ⟨k, m, e, _⟩ := mem_parts.mp h
  simp only [fkind, List.find?_isSome]
  exact ⟨k, m, by simp [e]⟩
theorem WF.part {b : Bk} (w : WF b) {p : Pt} (h : p ∈ partsOf b.ks) : 0 ≤ p.l ∧ p.l ≤ 4 ∧ 0 ≤ p.r ∧ p.r ≤ 4 := by
  obtain ⟨k, m, _, hp⟩ := mem_parts.mp h
  have := (w.k k m).pr _ hp
  exact ⟨this.1, this.2.1, this.2.2.1, this.2.2.2.1⟩
theorem begunAt_eq {b : Bk} (h2 : 2 ≤ b.h) (l0 : 0 ≤ b.l) (l r : Int) (p : Pt) (lv : Bool) : begunAt b l r p lv = Bf.b2 b.h b.hd (Bf.b1 b.l l r lv) := by
  rw [← Bf.bg_eq b.h b.l l r b.hd lv h2 l0]
  rfl
def standAt (b : Bk) (q : Int × Int) : Int × Int := (q.1.fmod b.h, q.2 - q.1)
theorem begun_shift {b : Bk} (h2 : 2 ≤ b.h) (l0 : 0 ≤ b.l) (l r k : Int) (p : Pt) (lv : Bool) : begunAt b (l + b.h * k) (r + b.h * k) p lv = ((begunAt b l r p lv).1 + b.h * k, (begunAt b l r p lv).2 + b.h * k) := by
  rw [begunAt_eq h2 l0, begunAt_eq h2 l0, Bf.b1_shift, Bf.b2_shift _ _ _ _ h2]
theorem stand_split (b : Bk) (h2 : 2 ≤ b.h) (q : Int × Int) : q.1 = (standAt b q).1 + b.h * (q.1 / b.h) ∧ q.2 = (standAt b q).1 + (standAt b q).2 + b.h * (q.1 / b.h) := by
  have e := Int.mul_ediv_add_emod q.1 b.h
  have f : q.1.fmod b.h = q.1 % b.h := Int.fmod_eq_emod_of_nonneg _ (by omega)
  simp only [standAt, f]
  omega
theorem step_at {b : Bk} (h2 : 2 ≤ b.h) (l0 : 0 ≤ b.l) (q : Int × Int) (p : Pt) (lv : Bool) :
    (stepOf b (standAt b q) p lv).blank = ((begunAt b q.1 q.2 p lv).1 - q.1, (begunAt b q.1 q.2 p lv).2 - q.2) ∧
    (stepOf b (standAt b q) p lv).there = standAt b (laidOf b q.1 q.2 p lv).2 := by
  obtain ⟨e1, e2⟩ := stand_split b h2 q
  have sh := begun_shift h2 l0 (standAt b q).1 ((standAt b q).1 + (standAt b q).2) (q.1 / b.h) p lv
  rw [← e1, ← e2] at sh
  simp only [stepOf, laidOf, sh]
  refine ⟨?_, ?_⟩
  · rw [Prod.mk.injEq]
    constructor <;> omega
  · simp only [standAt]
    rw [Prod.mk.injEq]
    refine ⟨?_, ?_⟩
    · rw [Int.fmod_eq_emod_of_nonneg _ (by omega), Int.fmod_eq_emod_of_nonneg _ (by omega), Int.fmod_eq_emod_of_nonneg _ (by omega)]
      rw [show (begunAt b (q.1 % b.h) (q.1 % b.h + (q.2 - q.1)) p lv).1 + b.h * (q.1 / b.h) + p.l = (begunAt b (q.1 % b.h) (q.1 % b.h + (q.2 - q.1)) p lv).1 + p.l + b.h * (q.1 / b.h) by omega]
      rw [Int.add_mul_emod_self_left]
    · omega
/-! ### both books -/
abbrev S2 := (Int × Int) × (Int × Int)
def nextOf (a b : Bk) (s : S2) (p : Pt) : Option S2 :=
  if (stepOf a s.1 p (levelOf a.ks p)).blank ≠ (stepOf b s.2 p (levelOf b.ks p)).blank then none else some ((stepOf a s.1 p (levelOf a.ks p)).there, (stepOf b s.2 p (levelOf b.ks p)).there)
theorem run_lay {a b : Bk} (wa : WF a) (wb : WF b) : ∀ (u : List Pt) (q : Int × Int), (Bf.run (nextOf a b) (standAt a q, standAt b q) u).isSome ↔ (layAll a u q).1 = (layAll b u q).1
  | [], q => by simp [Bf.run, layAll]
  | p :: u, q => by
    have sa := step_at wa.h2 wa.l0 q p (levelOf a.ks p)
    have sb := step_at wb.h2 wb.l0 q p (levelOf b.ks p)
    have e0 : ∀ c : Bk, (laidOf c q.1 q.2 p (levelOf c.ks p)).1 = begunAt c q.1 q.2 p (levelOf c.ks p) := fun _ => rfl
    by_cases e : begunAt a q.1 q.2 p (levelOf a.ks p) = begunAt b q.1 q.2 p (levelOf b.ks p)
    · have n : nextOf a b (standAt a q, standAt b q) p = some (standAt a (laidOf a q.1 q.2 p (levelOf a.ks p)).2, standAt b (laidOf b q.1 q.2 p (levelOf b.ks p)).2) := by
        simp only [nextOf, sa.1, sb.1, sa.2, sb.2, e, ne_eq, not_true_eq_false, if_false]
      have e2 : (laidOf a q.1 q.2 p (levelOf a.ks p)).2 = (laidOf b q.1 q.2 p (levelOf b.ks p)).2 := by simp only [laidOf, e]
      have ih := run_lay wa wb u (laidOf a q.1 q.2 p (levelOf a.ks p)).2
      simp only [Bf.run, n, layAll, e0, e, List.cons.injEq, true_and]
      rw [← e2]
      exact ih
    · have n : nextOf a b (standAt a q, standAt b q) p = none := by
        simp only [nextOf, sa.1, sb.1]
        rw [if_pos]
        intro x
        apply e
        simp only [Prod.mk.injEq] at x
        have x1 : (begunAt a q.1 q.2 p (levelOf a.ks p)).1 = (begunAt b q.1 q.2 p (levelOf b.ks p)).1 := by omega
        have x2 : (begunAt a q.1 q.2 p (levelOf a.ks p)).2 = (begunAt b q.1 q.2 p (levelOf b.ks p)).2 := by omega
        exact Prod.ext x1 x2
      simp only [Bf.run, n, layAll, e0, List.cons.injEq, e, false_and]
      simp
/-- all stands of the form that comes about -/
def stL : List (Int × Int) := (List.range 6).flatMap fun (i : Nat) => (List.range 17).map fun (j : Nat) => (((i : Nat) : Int), ((j : Nat) : Int) - 8)
def stL2 : List S2 := stL.flatMap fun a => stL.map fun b => (a, b)
theorem mem_stL {s : Int × Int} (a : 0 ≤ s.1) (b : s.1 < 6) (c : -8 ≤ s.2) (d : s.2 ≤ 8) : s ∈ stL := by
  simp only [stL, List.mem_flatMap, List.mem_range, List.mem_map]
  refine ⟨s.1.toNat, by omega, (s.2 + 8).toNat, by omega, ?_⟩
  obtain ⟨x, y⟩ := s
  simp only at a b c d ⊢
  rw [Prod.mk.injEq]
  omega
theorem len_stL : stL.length = 102 := by rfl
theorem len_flat {α β γ : Type} (xs : List α) (ys : List β) (f : α → β → γ) : (xs.flatMap fun a => ys.map fun b => f a b).length = xs.length * ys.length := by
  induction xs with
  | nil => simp
  | cons x xs ih => simp [List.flatMap_cons, ih, Nat.add_mul]; omega
theorem len_stL2 : stL2.length = 10404 := by
  rw [stL2, len_flat, len_stL]
theorem step_in {b : Bk} (w : WF b) (s : Int × Int) {p : Pt} (hp : 0 ≤ p.l ∧ p.l ≤ 4 ∧ 0 ≤ p.r ∧ p.r ≤ 4) (lv : Bool) : (stepOf b s p lv).there ∈ stL := by
  have d1 := Bf.b1_drift b.l s.1 (s.1 + s.2) lv w.l0
  have d2 := Bf.b2_drift b.h b.l b.hd _ w.h2 w.l0 d1.1 d1.2
  have h2 := w.h2
  have h6 := w.h6
  have l4 := w.l4
  rw [← begunAt_eq w.h2 w.l0 s.1 (s.1 + s.2) p lv] at d2
  have m0 := Int.emod_nonneg ((begunAt b s.1 (s.1 + s.2) p lv).1 + p.l) (show b.h ≠ 0 by omega)
  have m1 := Int.emod_lt_of_pos ((begunAt b s.1 (s.1 + s.2) p lv).1 + p.l) (show 0 < b.h by omega)
  have f := Int.fmod_eq_emod_of_nonneg ((begunAt b s.1 (s.1 + s.2) p lv).1 + p.l) (show 0 ≤ b.h by omega)
  apply mem_stL <;> simp only [stepOf, laidOf, f] <;> omega
theorem next_in {a b : Bk} (wa : WF a) (wb : WF b) (hab : partsOf a.ks = partsOf b.ks) : ∀ s ∈ stL2, ∀ p ∈ partsOf a.ks, ∀ s', nextOf a b s p = some s' → s' ∈ stL2 := by
  intro s _ p hp s' h
  simp only [nextOf] at h
  split at h
  · cases h
  · cases h
    simp only [stL2, List.mem_flatMap, List.mem_map]
    exact ⟨_, step_in wa _ (wa.part hp) _, _, step_in wb _ (wb.part (hab ▸ hp)) _, rfl⟩
def first2 : S2 := ((0, 0), (0, 0))
theorem first_in : first2 ∈ stL2 := by
  simp only [stL2, List.mem_flatMap, List.mem_map]
  exact ⟨_, mem_stL (s := (0, 0)) (by decide) (by decide) (by decide) (by decide), _, mem_stL (s := (0, 0)) (by decide) (by decide) (by decide) (by decide), rfl⟩
theorem first_eq (a b : Bk) : first2 = (standAt a (0, 0), standAt b (0, 0)) := by simp [first2, standAt]
/-- the search's answer -/
def apart (a b : Bk) : Option (List Pt) := (Bf.bfs (nextOf a b) (partsOf a.ks) FUEL [(first2, [])] [first2]).getD none
theorem apart_eq {a b : Bk} (wa : WF a) (wb : WF b) (hab : partsOf a.ks = partsOf b.ks) : Bf.bfs (nextOf a b) (partsOf a.ks) FUEL [(first2, [])] [first2] = some (apart a b) ∧ Bf.Ans (nextOf a b) (partsOf a.ks) first2 (apart a b) := by
  obtain ⟨r, e, h⟩ := Bf.bfs_full (next_in wa wb hab) first_in (n := FUEL) (by rw [len_stL2]; decide)
  simp only [apart, e, Option.getD_some]
  exact ⟨trivial, h⟩
theorem apart_len {a b : Bk} (wa : WF a) (wb : WF b) (hab : partsOf a.ks = partsOf b.ks) {t : List Pt} (e : apart a b = some t) : t.length ≤ 10404 := by
  have h := (apart_eq wa wb hab).1
  rw [e] at h
  have := Bf.bfs_len (next_in wa wb hab) (Bf.Good.init first_in) (by simp [Bf.keys]) h
  rw [len_stL2] at this
  exact this
def Alike (a b : Bk) : Prop := ∀ u : List Pt, (∀ p ∈ u, p ∈ partsOf a.ks) → (layAll a u (0, 0)).1 = (layAll b u (0, 0)).1
theorem apart_none {a b : Bk} (wa : WF a) (wb : WF b) (hab : partsOf a.ks = partsOf b.ks) : apart a b = none ↔ Alike a b := by
  have h := (apart_eq wa wb hab).2
  constructor
  · intro e u hu
    have := h.none_ e u hu
    rw [first_eq a b] at this
    exact (run_lay wa wb u (0, 0)).mp this
  · intro al
    cases e : apart a b with
    | none => rfl
    | some t =>
      obtain ⟨_, h2, h3, _⟩ := h.some_ t e
      have := (run_lay wa wb t (0, 0)).mpr (al t h2)
      rw [← first_eq a b, h3] at this
      cases this
theorem apart_some {a b : Bk} (wa : WF a) (wb : WF b) (hab : partsOf a.ks = partsOf b.ks) {t : List Pt} (e : apart a b = some t) :
    t ≠ [] ∧ (∀ p ∈ t, p ∈ partsOf a.ks) ∧ (layAll a t (0, 0)).1 ≠ (layAll b t (0, 0)).1 ∧ (∀ u : List Pt, (∀ p ∈ u, p ∈ partsOf a.ks) → u.length < t.length → (layAll a u (0, 0)).1 = (layAll b u (0, 0)).1) := by
  obtain ⟨h1, h2, h3, h4⟩ := (apart_eq wa wb hab).2.some_ t e
  refine ⟨h1, h2, ?_, ?_⟩
  · intro q
    have := (run_lay wa wb t (0, 0)).mpr q
    rw [← first_eq a b, h3] at this
    cases this
  · intro u hu hl
    have := h4 u hu hl
    rw [first_eq a b] at this
    exact (run_lay wa wb u (0, 0)).mp this
end Pg
end
section
set_option Elab.async false
set_option linter.all false
set_option maxRecDepth 100000
set_option autoImplicit true
set_option relaxedAutoImplicit true
/-! QW: what holds behind, for the meaning. -/
namespace FF
open PySem PySem.Spec PyProof.Rows L2 PySem.W
theorem bind_cg {α β : Type} {x y : O α} {f : α → Sl → O β} (h : x = y) : x.bind f = y.bind f := by rw [h]
theorem to_cg {α : Type} {x y : O α} {f : α → Sl → SO} (h : x = y) : x.to f = y.to f := by rw [h]
theorem seq_cg {x y : SO} {f : Sl → SO} (h : x = y) : x.seq f = y.seq f := by rw [h]
theorem get_cg {a b : A} {r s : Sl} {f : D → O W} (h : a = b) (h' : r = s) : a.get r f = b.get s f := by rw [h, h']
@[simp] theorem get_ol {i : Nat} {ρ : Sl} {x : List D} {k : D → O W} (h : ρ[i]? = some (.ol x)) : (A.s i).get ρ k = k (.list x) := by simp [A.get, h]
@[simp] theorem get_od {i : Nat} {ρ : Sl} {x : List (D × D)} {k : D → O W} (h : ρ[i]? = some (.od x)) : (A.s i).get ρ k = k (.dict x) := by simp [A.get, h]
@[simp] theorem get_ll {i : Nat} {ρ : Sl} {x : List D} {k : D → O W} (h : ρ[i]? = some (.ll x)) : (A.s i).get ρ k = k (.list x) := by simp [A.get, h]
@[simp] theorem pkVar_ll {i : Nat} {ρ : Sl} {x : List D} (h : ρ[i]? = some (.ll x)) : pkVar i ρ = .ok (.s i) ρ := by simp [pkVar, h]
@[simp] theorem free_it {x : SO} {a : E} {ρ₀ : Sl} : x.free (.it a) ρ₀ = x := by cases x <;> rfl
@[simp] theorem free_r1 {x : SO} {a : E} {ρ₀ : Sl} : x.free (.r1 a) ρ₀ = x := by cases x <;> rfl
@[simp] theorem free_r2 {x : SO} {a b : E} {ρ₀ : Sl} : x.free (.r2 a b) ρ₀ = x := by cases x <;> rfl
@[simp] theorem free_zip {x : SO} {a b : E} {ρ₀ : Sl} : x.free (.zip a b) ρ₀ = x := by cases x <;> rfl
@[simp] theorem seq_id {x : SO} : (x.seq fun ρ => .nx ρ) = x := by cases x <;> rfl
@[simp] theorem rdVar_od {i : Nat} {ρ : Sl} {x : List (D × D)} (h : ρ[i]? = some (.od x)) : rdVar i ρ = .ok (.d (.dict x)) (ρ.set i (.d (.dict x))) := by simp [rdVar, h]
def OK {α : Type} (x : O α) (Q : α → Sl → Prop) : Prop := match x with
  | .ok a ρ => Q a ρ
  | _ => False
def SK (x : SO) (N : Sl → Prop) (Rt : W → Sl → Prop) : Prop := match x with
  | .nx ρ => N ρ
  | .rt w ρ => Rt w ρ
  | _ => False
def CK (x : R) (Q : W → List W → Prop) : Prop := match x with
  | .ok w o => Q w o
  | _ => False
theorem OK_cg {α : Type} {x y : O α} {Q : α → Sl → Prop} (h : x = y) : OK x Q = OK y Q := by rw [h]
theorem SK_cg {x y : SO} {N : Sl → Prop} {Rt : W → Sl → Prop} (h : x = y) : SK x N Rt = SK y N Rt := by rw [h]
theorem CK_cg {x y : R} {Q : W → List W → Prop} (h : x = y) : CK x Q = CK y Q := by rw [h]
theorem OK_ok {α : Type} {a : α} {ρ : Sl} {Q : α → Sl → Prop} : OK (.ok a ρ) Q ↔ Q a ρ := Iff.rfl
theorem SK_nx {ρ : Sl} {N : Sl → Prop} {Rt : W → Sl → Prop} : SK (.nx ρ) N Rt ↔ N ρ := Iff.rfl
theorem SK_rt {w : W} {ρ : Sl} {N : Sl → Prop} {Rt : W → Sl → Prop} : SK (.rt w ρ) N Rt ↔ Rt w ρ := Iff.rfl
theorem OK_bind {α β : Type} {x : O α} {f : α → Sl → O β} {Q : β → Sl → Prop} : OK (x.bind f) Q ↔ OK x fun a ρ => OK (f a ρ) Q := by cases x <;> exact Iff.rfl
theorem SK_to {α : Type} {x : O α} {f : α → Sl → SO} {N : Sl → Prop} {Rt : W → Sl → Prop} : SK (x.to f) N Rt ↔ OK x fun a ρ => SK (f a ρ) N Rt := by cases x <;> exact Iff.rfl
theorem SK_seq {x : SO} {f : Sl → SO} {N : Sl → Prop} {Rt : W → Sl → Prop} : SK (x.seq f) N Rt ↔ SK x (fun ρ => SK (f ρ) N Rt) Rt := by cases x <;> exact Iff.rfl
theorem OK_dat {x : O W} {Q : D → Sl → Prop} : OK (dat x) Q ↔ OK x fun w ρ => match w.frz with
    | some y => Q y ρ
    | none => False := by
  cases x with
  | ok w ρ => simp only [dat, OK]; cases w.frz <;> exact Iff.rfl
  | ex c ρ => exact Iff.rfl
  | bad => exact Iff.rfl
theorem OK_opndD {x : O W} {Q : A → Sl → Prop} : OK (opndD x) Q ↔ OK x fun w ρ => match w.frz with
    | some y => Q (.v y) ρ
    | none => False := by
  cases x with
  | ok w ρ => simp only [dat, opndD, OK]; cases w.frz <;> exact Iff.rfl
  | ex c ρ => exact Iff.rfl
  | bad => exact Iff.rfl
theorem OK.imp {α : Type} {x : O α} {Q Q' : α → Sl → Prop} (h : OK x Q) (i : ∀ a ρ, Q a ρ → Q' a ρ) : OK x Q' := by
  cases x with
  | ok a ρ => exact i _ _ h
  | ex c ρ => exact h
  | bad => exact h
theorem SK.imp {x : SO} {N N' : Sl → Prop} {Rt Rt' : W → Sl → Prop} (h : SK x N Rt) (i : ∀ ρ, N ρ → N' ρ) (j : ∀ w ρ, Rt w ρ → Rt' w ρ) : SK x N' Rt' := by
  cases x with
  | nx ρ => exact i _ h
  | rt w ρ => exact j _ _ h
  | ex c ρ => exact h
  | bad => exact h
theorem CK.imp {x : R} {Q Q' : W → List W → Prop} (h : CK x Q) (i : ∀ a ρ, Q a ρ → Q' a ρ) : CK x Q' := by
  cases x with
  | ok a ρ => exact i _ _ h
  | ex c => exact h
  | bad => exact h
theorem CK.get {x : R} {Q : W → List W → Prop} (h : CK x Q) : ∃ w o, x = .ok w o ∧ Q w o := by
  cases x with
  | ok a ρ => exact ⟨a, ρ, rfl, h⟩
  | ex c => exact h.elim
  | bad => exact h.elim
theorem CK.of {x : R} {Q : W → List W → Prop} {w o} (h : x = .ok w o) (q : Q w o) : CK x Q := by rw [h]; exact q
/-- a call, by what is known of the def -/
theorem OK_call {F : FunD} {as : List A} {ρ : Sl} {ws : List W} {P : W → List W → Prop} {Q : W → Sl → Prop} (hn : nodupB (slotsOf as) = true) (ha : argsW ρ as = some ws) (h : CK (F ws) P) (k : ∀ w o, P w o → Q w (putOuts ρ as o)) : OK (doCall F as ρ) Q := by
  obtain ⟨w, o, e, q⟩ := h.get
  simp only [doCall, hn, ha, e, if_true]
  exact k w o q
theorem CK_fn {Γ : Nat → FunD} {f : Fn} {ws : List W} {Q : W → List W → Prop} (hl : ws.length = f.n) (ho : ownOnly f.by_ 0 ws = true)
    (h : SK (evSs Γ f.body (ws ++ List.replicate (f.slots - f.n) .un)) (fun ρ => Q (.d .none) (outsOf f.by_ 0 ws ρ)) (fun w ρ => Q w (outsOf f.by_ 0 ws ρ))) : CK (evFn Γ f ws) Q := by
  simp only [evFn, hl, ho, and_self, if_true]
  cases e : evSs Γ f.body (ws ++ List.replicate (f.slots - f.n) .un) with
  | nx ρ => rw [e] at h; exact h
  | rt w ρ => rw [e] at h; exact h
  | ex c ρ => rw [e] at h; exact h.elim
  | bad => rw [e] at h; exact h.elim
section
variable (Γ : Nat → FunD)
/-- a walk with what holds ahead of each turn -/
theorem SK_for {t : T} {body : Ss} (I : List D → Sl → Prop) {Rt : W → Sl → Prop} {N : Sl → Prop}
    (hs : ∀ x xs ρ, I (x :: xs) ρ → SK ((asgT Γ t (.d x) ρ).to fun _ ρ => evSs Γ body ρ) (I xs) Rt) (he : ∀ ρ, I [] ρ → N ρ) :
    ∀ xs ρ, I xs ρ → SK (forDo Γ t body xs ρ) N Rt := by
  intro xs
  induction xs with
  | nil => intro ρ h; exact he ρ h
  | cons x xs ih =>
    intro ρ h
    rw [forDo_cons, SK_seq]
    exact (hs x xs ρ h).imp ih (fun _ _ h => h)
theorem OK_lc {own : List Nat} {t : T} {c : Es} {e : E} (I : List D → List D → Sl → Prop) {Q : List D → Sl → Prop}
    (hs : ∀ x xs acc ρ, I (x :: xs) acc ρ → OK (lcTurn (fun x ρ => asgT Γ t (.d x) ρ) (fun ρ => evCs Γ c ρ) (fun ρ => dat (evW Γ e ρ)) x ρ) fun o ρ' => match o with
      | some y => acc.length < sizeLine ∧ I xs (acc ++ [y]) (wipeW ρ' own)
      | none => I xs acc (wipeW ρ' own)) (he : ∀ acc ρ, I [] acc ρ → Q acc ρ) :
    ∀ xs acc ρ, I xs acc ρ → OK (lcDo Γ own t c e xs acc ρ) Q := by
  intro xs
  induction xs with
  | nil => intro acc ρ h; exact he acc ρ h
  | cons x xs ih =>
    intro acc ρ h
    have h1 := hs x xs acc ρ h
    unfold lcDo lcLoop
    cases e : lcTurn (fun x ρ => asgT Γ t (.d x) ρ) (fun ρ => evCs Γ c ρ) (fun ρ => dat (evW Γ e ρ)) x ρ with
    | ok o ρ' =>
      rw [e] at h1
      simp only [OK] at h1
      cases o with
      | none => exact ih _ _ h1
      | some y =>
        simp only [h1.1, if_true]
        exact ih _ _ h1.2
    | ex c ρ => rw [e] at h1; exact h1.elim
    | bad => rw [e] at h1; exact h1.elim
theorem SK_whl {c : E} {body : Ss} {n : Nat} {ρ : Sl} {N : Sl → Prop} {Rt : W → Sl → Prop}
    (h : OK (evT Γ c ρ) fun t ρ => if t then SK (evSs Γ body ρ) (fun ρ => SK (whlDo Γ c body n ρ) N Rt) Rt else N ρ) : SK (whlDo Γ c body (n + 1) ρ) N Rt := by
  rw [whlDo_succ, SK_to]
  refine h.imp ?_
  intro t ρ h
  cases t with
  | true => simp only [if_true] at h ⊢; rw [SK_seq]; exact h
  | false => simpa [SK_nx] using h
end
end FF
end
section
set_option Elab.async false
set_option linter.all false
set_option maxRecDepth 100000
namespace Pg
open PySem PySem.Spec PyProof.Rows L2 PySem.W FF
theorem cut_all {xs : List D} : FF.cutD xs none none = xs := by simp [FF.cutD, HT.sIx]
theorem cut_to {xs : List D} {n : Nat} : FF.cutD xs none (some (n : Int)) = xs.take n := by
  simp only [FF.cutD, HT.sIx_none, HT.sIx_nat, List.drop_zero, Nat.sub_zero]
  rw [Nat.min_def]
  split
  · rfl
  · rw [List.take_of_length_le (Nat.le_refl _), List.take_of_length_le (by omega)]
theorem cut_from {xs : List D} {n : Nat} : FF.cutD xs (some (n : Int)) none = xs.drop n := by
  simp only [FF.cutD, HT.sIx_none, HT.sIx_nat]
  rw [List.take_of_length_le (by simp)]
  rw [Nat.min_def]
  split
  · rfl
  · rw [List.drop_of_length_le (Nat.le_refl _), List.drop_of_length_le (by omega)]
theorem cut_last {xs : List D} : FF.cutD xs none (some (-1)) = xs.dropLast := by
  simp only [FF.cutD, HT.sIx_none, List.drop_zero, Nat.sub_zero]
  rw [List.dropLast_eq_take]
  congr 1
  simp [HT.sIx]
  omega
theorem adj {α : Type} {R : α → α → Prop} : ∀ {xs : List α}, xs.Pairwise R → ∀ x ∈ List.zipWith (fun x y => (x, y)) xs (xs.drop 1), R x.1 x.2
  | [], _, x, h => by simp at h
  | [a], _, x, h => by simp at h
  | a :: b :: xs, hp, x, h => by
    simp only [List.drop_succ_cons, List.drop_zero, List.zipWith_cons_cons, List.mem_cons] at h
    rcases h with rfl | h
    · exact List.rel_of_pairwise_cons hp (.head _)
    · exact adj (List.Pairwise.of_cons hp) x (by simpa using h)
theorem lt_pair (p q : Int × Int) : cmpD .lt (pD p) (pD q) = some (pLt p q) := by
  have : cmpD .lt (pD p) (pD q) = some (PySem.W.dataLt (pD p) (pD q)) := rfl
  rw [this, pD, pD, PySem.W.dataLt_ii]
  congr 1
  simp [pLt]
theorem f2_pairs (ps : List (Int × Int)) (h : ps.Pairwise fun p q => pLt p q = true) (hl : ps.length ≤ 1000) : F2 [.d (.tuple (ps.map pD))] = .ok (.d (.bool true)) [.d (.tuple (ps.map pD))] := by
  apply f2_t
  · simpa using hl
  · have : slcW (.tuple (ps.map pD)) (some ((1 : Nat) : Int)) none = some (.d (.tuple ((ps.map pD).drop 1))) := by
      simp only [slcW, cut_from]
    exact this
  · have := adj (R := fun x y => cmpD .lt x y = some true) (xs := ps.map pD) (by
      rw [List.pairwise_map]
      exact h.imp fun {a b} hab => by rw [lt_pair, hab])
    exact this
theorem menus_menu {ns : List Str} (h : ns ∈ menus) : ∀ n ∈ ns, n ∈ menu := by
  simp only [menus, List.mem_cons, List.not_mem_nil, or_false] at h
  rcases h with h | h | h | h | h | h | h | h | h | h | h | h <;> subst h <;> decide
theorem f2_names {ns : List Str} (h : ns ∈ menus) : F2 [.d (.list (ns.map .str))] = .ok (.d (.bool true)) [.d (.list (ns.map .str))] := by
  simp only [menus, List.mem_cons, List.not_mem_nil, or_false] at h
  rcases h with h | h | h | h | h | h | h | h | h | h | h | h <;> subst h <;> rfl
theorem menus_len {ns : List Str} (h : ns ∈ menus) : 1 ≤ ns.length ∧ ns.length ≤ 3 := by
  simp only [menus, List.mem_cons, List.not_mem_nil, or_false] at h
  rcases h with h | h | h | h | h | h | h | h | h | h | h | h <;> subst h <;> decide
theorem menus_nodup {ns : List Str} (h : ns ∈ menus) : ns.Nodup := by
  simp only [menus, List.mem_cons, List.not_mem_nil, or_false] at h
  rcases h with h | h | h | h | h | h | h | h | h | h | h | h <;> subst h <;> decide
theorem WF.len {b : Bk} (w : WF b) : 1 ≤ b.ks.length ∧ b.ks.length ≤ 3 := by simpa using menus_len w.names
theorem WF.f4 {b : Bk} (w : WF b) {k : Kn} (m : k ∈ b.ks) : F4 [.d (knD k)] = .ok (.d (.bool true)) [.d (knD k)] := by
  have wk := w.k k m
  apply Pg.f4 k (menus_menu w.names _ (List.mem_map_of_mem m)) ?_ wk.l1 wk.l3 (f2_pairs _ wk.asc (by have := wk.l3; omega)) (plain_kn k) (plain_pairs _)
  intro p hp
  have := wk.pr p hp
  exact f3 p this.1 this.2.1 this.2.2.1 this.2.2.2.1 this.2.2.2.2
theorem sum_ints (ns : List Int) : biW .sum [.list (ns.map .int)] = some (.d (.int ns.sum)) := by
  have : ∀ ns : List Int, intsD (ns.map .int) = some ns := by
    intro ns
    induction ns with
    | nil => rfl
    | cons n ns ih => simp [intsD, ih]
  simp [biW, this]
/-- is_book -/
theorem f5 {b : Bk} (w : WF b) : F5 [.d (bkD b)] = .ok (.d (.bool true)) [.d (bkD b)] := by
  have t0 : getL T5 0 = F0 := rfl
  have t2 : getL T5 2 = F2 := rfl
  have t4 : getL T5 4 = F4 := rfl
  have h2 := w.h2
  have h6 := w.h6
  have l0 := w.l0
  have l4 := w.l4
  have hl := w.len
  have c1 := f0_int b.h 2 6
  have c2 := f0_int b.l 0 4
  have e1 := lcDo_map (getL T5) (own := [1]) (t := .nm 1) (c := .nil) (e := .call 4 (.cons (.var 1) .nil))
    (f := fun _ => some (.bool true)) (ρ := [.d (bkD b), .un]) (xs := b.ks.map knD) (by
      intro x hx
      obtain ⟨k, m, rfl⟩ := List.mem_map.mp hx
      exact ⟨[.d (bkD b), .d (knD k)], by simp [lcTurn, t4, doCall, putOuts, w.f4 m], by simp⟩) [] (by have := sx; simp; omega)
  have fm : ∀ (ys : List Kn), List.filterMap ((fun x : D => some (PyData.bool true)) ∘ knD) ys = List.replicate ys.length (.bool true) := by
    intro ys
    induction ys with
    | nil => rfl
    | cons y ys ih => simp [ih, List.replicate_succ]
  simp [fm] at e1
  have e2 := lcDo_map (getL T5) (own := [1]) (t := .nm 1) (c := .nil) (e := .idx (.var 1) (.k (.int 0)))
    (f := fun x => match x with | .tuple (a :: _) => some a | _ => none) (ρ := [.d (bkD b), .un]) (xs := b.ks.map knD) (by
      intro x hx
      obtain ⟨k, m, rfl⟩ := List.mem_map.mp hx
      exact ⟨[.d (bkD b), .d (knD k)], by simp [lcTurn, knD], by simp⟩) [] (by have := sx; simp; omega)
  have e2' : (b.ks.map knD).filterMap (fun x => match x with | .tuple (a :: _) => some a | _ => none) = (b.ks.map (·.name)).map PyData.str := by
    simp [List.filterMap_map, Function.comp_def, knD]
  rw [e2'] at e2
  have e3 := lcDo_map (getL T5) (own := [1]) (t := .nm 1) (c := .nil) (e := .bi .len (.cons (.idx (.var 1) (.k (.int 1))) .nil))
    (f := fun x => match x with | .tuple [_, .tuple ps, _] => some (PyData.int ps.length) | _ => none) (ρ := [.d (bkD b), .un]) (xs := b.ks.map knD) (by
      intro x hx
      obtain ⟨k, m, rfl⟩ := List.mem_map.mp hx
      exact ⟨[.d (bkD b), .d (knD k)], by simp [lcTurn, knD, biW], by simp⟩) [] (by have := sx; simp; omega)
  have e3' : (b.ks.map knD).filterMap (fun x => match x with | .tuple [_, .tuple ps, _] => some (PyData.int ps.length) | _ => none) = (b.ks.map fun k => (k.pairs.length : Int)).map PyData.int := by
    simp [List.filterMap_map, Function.comp_def, knD]
  rw [e3'] at e3
  have sm := sum_ints (b.ks.map fun k => (k.pairs.length : Int))
  have s6 : (b.ks.map fun k => (k.pairs.length : Int)).sum ≤ 6 := by
    have : ∀ ks : List Kn, (ks.map fun k => (k.pairs.length : Int)).sum = ((ks.map fun k => k.pairs.length).sum : Nat) := by
      intro ks
      induction ks with
      | nil => rfl
      | cons k ks ih => simp [ih]
    rw [this]
    have := w.tot
    omega
  have nm := f2_names w.names
  simp only [List.nil_append] at e2 e3
  have ty : isiW .tuple (bkD b) = some (.d (.bool true)) := by simp [isiW, plain_bk b]; rfl
  have pk : PyData.plain (.tuple (b.ks.map knD)) = true := by
    have := plain_bk b
    simp [bkD, PyData.plain, PyData.plainAll] at this ⊢
    exact this
  have ty2 : isiW .tuple (.tuple (b.ks.map knD)) = some (.d (.bool true)) := by simp [isiW, pk]
  have tyb : isiW .bool (.bool b.hd) = some (.d (.bool true)) := rfl
  have ln : biW .len [bkD b] = some (.d (.int 4)) := rfl
  have ln2 : biW .len [.tuple (b.ks.map knD)] = some (.d (.int b.ks.length)) := by simp [biW]
  have i0 : idxD (bkD b) (.int 0) = some (.int b.h) := idx0 _ _
  have i1 : idxD (bkD b) (.int 1) = some (.int b.l) := idx1 _ _ _
  have i2 : idxD (bkD b) (.int 2) = some (.bool b.hd) := idx2 _ _ _ _
  have i3 : idxD (bkD b) (.int 3) = some (.tuple (b.ks.map knD)) := idx3 _ _ _ _ _
  have n4 : cmpD .ne (.int 4) (.int 4) = some false := rfl
  have a1 : (1 : Int) ≤ b.ks.length := by omega
  have a3 : (b.ks.length : Int) ≤ 3 := by omega
  simp [-List.map_map, F5, fn5, evFn, t0, t2, t4, doCall, putOuts, c1, c2, e1, e2, e3, sm, s6, nm, ty, ty2, tyb, ln, ln2, i0, i1, i2, i3, n4, a1, a3, all_true, h2, h6, l0, l4]
theorem f6 {b : Bk} (w : WF b) : F6 [.d (bkD b)] = .ok (.d .none) [.d (bkD b)] := by
  have t : getL T6 5 = F5 := rfl
  simp [F6, fn6, evFn, t, doCall, putOuts, f5 w]
end Pg
end
section
set_option Elab.async false
set_option linter.all false
set_option maxRecDepth 100000
namespace Pg
open PySem PySem.Spec PyProof.Rows L2 PySem.W FF
theorem plain_pt (p : Pt) : (ptD p).plain = true := rfl
theorem eqOk_pt (p : Pt) : eqOk (ptD p) = true := rfl
theorem eqv_pt (p q : Pt) : PyData.eqv (ptD p) (ptD q) = decide (p = q) := by
  obtain ⟨a, b, c⟩ := p
  obtain ⟨a', b', c'⟩ := q
  have : PyData.eqv (ptD ⟨a, b, c⟩) (ptD ⟨a', b', c'⟩) = (decide (a = a') && (decide (b = b') && (decide (c = c') && true))) := rfl
  rw [this]
  simp only [Pt.mk.injEq, Bool.and_true, ← Bool.decide_and]
theorem plainAll_map {α : Type} (f : α → D) (h : ∀ a, (f a).plain = true) (xs : List α) : PyData.plainAll (xs.map f) = true := by
  induction xs with
  | nil => rfl
  | cons x xs ih => simp [PyData.plainAll, ih, h x]
theorem depthAll_map {α : Type} (f : α → D) (n : Nat) (h : ∀ a, (f a).depth ≤ n) (xs : List α) : PyData.depthAll (xs.map f) ≤ n := by
  induction xs with
  | nil => simp [PyData.depthAll]
  | cons x xs ih => simp only [List.map_cons, PyData.depthAll]; have := h x; omega
theorem eqOk_list {α : Type} (f : α → D) (n : Nat) (hn : n < 60) (h : ∀ a, (f a).plain = true) (h' : ∀ a, (f a).depth ≤ n) (xs : List α) : eqOk (.list (xs.map f)) = true := by
  have a := plainAll_map f h xs
  have b := depthAll_map f n h' xs
  simp [eqOk, PyData.plain, a, PyData.depth]
  omega
theorem eqOk_tuple {α : Type} (f : α → D) (n : Nat) (hn : n < 60) (h : ∀ a, (f a).plain = true) (h' : ∀ a, (f a).depth ≤ n) (xs : List α) : eqOk (.tuple (xs.map f)) = true := by
  have a := plainAll_map f h xs
  have b := depthAll_map f n h' xs
  simp [eqOk, PyData.plain, a, PyData.depth]
  omega
theorem depth_pt (p : Pt) : (ptD p).depth ≤ 5 := by
  have : (ptD p).depth = (ptD ⟨"", 0, 0⟩).depth := rfl
  rw [this]
  decide
theorem depth_pD (p : Int × Int) : (pD p).depth ≤ 5 := by
  have : (pD p).depth = (pD (0, 0)).depth := rfl
  rw [this]
  decide
theorem in_parts (p : Pt) (ps : List Pt) : cmpD .isIn (ptD p) (.list (ps.map ptD)) = some (decide (p ∈ ps)) := by
  have a := eqOk_pt p
  have b := eqOk_list ptD 5 (by decide) plain_pt depth_pt ps
  simp only [cmpD, a, b, Bool.and_self, if_true, Option.some.injEq]
  rw [List.any_map]
  induction ps with
  | nil => rfl
  | cons q qs ih =>
    simp only [List.any_cons, Function.comp_def, eqv_pt, List.mem_cons] at ih ⊢
    rw [ih (eqOk_list ptD 5 (by decide) plain_pt depth_pt qs)]
    by_cases e : q = p
    · simp [e]
    · have : ¬ p = q := fun x => e x.symm
      simp [e, this]
theorem ne_nil {α : Type} (f : α → D) (h : ∀ a, (f a).plain = true) (h' : ∀ a, (f a).depth ≤ 5) (xs : List α) : cmpD .ne (.list (xs.map f)) (.list []) = some (!xs.isEmpty) := by
  have e1 := eqOk_list f 5 (by decide) h h' xs
  have e2 : eqOk (.list []) = true := rfl
  simp only [cmpD, e1, e2, Bool.and_self, if_true]
  cases xs with
  | nil => rfl
  | cons x xs => rfl
theorem WF.pl {b : Bk} (w : WF b) : ∀ k ∈ b.ks, k.pairs.length ≤ 1000 := fun k m => by have := (w.k k m).l3; omega
theorem WF.partsLen {b : Bk} (w : WF b) : (partsOf b.ks).length ≤ 6 := by rw [parts_len]; exact w.tot
theorem WF.f7 {b : Bk} (w : WF b) : F7 [.d (bkD b)] = .ok (.ol ((partsOf b.ks).map ptD)) [.d (bkD b)] := Pg.f7 b w.pl (by have := w.partsLen; have := sx; omega)
/-- is_part -/
theorem f8 {b : Bk} (w : WF b) {p : Pt} (h : p ∈ partsOf b.ks) : F8 [.d (bkD b), .d (ptD p)] = .ok (.d (.bool true)) [.d (bkD b), .d (ptD p)] := by
  have t0 : getL T8 0 = F0 := rfl
  have t7 : getL T8 7 = F7 := rfl
  have e7 := w.f7
  have c1 := f0_int p.l 0 4
  have c2 := f0_int p.r 0 4
  have r := w.part h
  have ty : isiW .tuple (ptD p) = some (.d (.bool true)) := rfl
  have tys : isiW .str (.str p.name) = some (.d (.bool true)) := rfl
  have ln : biW .len [ptD p] = some (.d (.int 3)) := rfl
  have i0 : idxD (ptD p) (.int 0) = some (.str p.name) := idx0 _ _
  have i1 : idxD (ptD p) (.int 1) = some (.int p.l) := idx1 _ _ _
  have i2 : idxD (ptD p) (.int 2) = some (.int p.r) := idx2 _ _ _ _
  have n3 : cmpD .ne (.int 3) (.int 3) = some false := rfl
  have hin := in_parts p (partsOf b.ks)
  simp [F8, fn8, evFn, t0, t7, doCall, putOuts, e7, c1, c2, ty, tys, ln, i0, i1, i2, n3, hin, r.1, r.2.1, r.2.2.1, r.2.2.2, h]
theorem fm_true {α β : Type} (f : α → β) : ∀ (ys : List α), List.filterMap ((fun x : β => some (PyData.bool true)) ∘ f) ys = List.replicate ys.length (.bool true) := by
  intro ys
  induction ys with
  | nil => rfl
  | cons y ys ih => simp [ih, List.replicate_succ]
/-- are_parts -/
theorem f9 {b : Bk} (w : WF b) {ps : List Pt} (h : ∀ p ∈ ps, p ∈ partsOf b.ks) (hl : ps.length ≤ sizeLine) : F9 [.d (bkD b), .d (.tuple (ps.map ptD))] = .ok (.d (.bool true)) [.d (bkD b), .d (.tuple (ps.map ptD))] := by
  have t8 : getL T9 8 = F8 := rfl
  have pl : PyData.plain (.tuple (ps.map ptD)) = true := by
    simp only [PyData.plain]; exact plainAll_map ptD plain_pt ps
  have ty : isiW .tuple (.tuple (ps.map ptD)) = some (.d (.bool true)) := by simp [isiW, pl]
  have e1 := lcDo_map (getL T9) (own := [2]) (t := .nm 2) (c := .nil) (e := .call 8 (.cons (.var 0) (.cons (.var 2) .nil)))
    (f := fun _ => some (.bool true)) (ρ := [.d (bkD b), .d (.tuple (ps.map ptD)), .un]) (xs := ps.map ptD) (by
      intro x hx
      obtain ⟨p, m, rfl⟩ := List.mem_map.mp hx
      exact ⟨[.d (bkD b), .d (.tuple (ps.map ptD)), .d (ptD p)], by simp [lcTurn, t8, doCall, putOuts, f8 w (h p m)], by simp⟩) [] (by simpa using hl)
  simp [fm_true] at e1
  simp [F9, fn9, evFn, t8, doCall, putOuts, ty, lockW, freeW, e1, all_true]
theorem f10 {b : Bk} (w : WF b) {ps : List Pt} (h : ∀ p ∈ ps, p ∈ partsOf b.ks) (hl : ps.length ≤ sizeLine) : F10 [.d (bkD b), .d (.tuple (ps.map ptD))] = .ok (.d .none) [.d (bkD b), .d (.tuple (ps.map ptD))] := by
  have t : getL T10 9 = F9 := rfl
  simp [F10, fn10, evFn, t, doCall, putOuts, f9 w h hl]
theorem ne_pD (p q : Int × Int) : cmpD .ne (pD p) (pD q) = some (!decide (p = q)) := by
  simp only [cmpD, eqOk_pair, Bool.and_self, if_true, Option.some.injEq]
  obtain ⟨a, b⟩ := p
  obtain ⟨c, d⟩ := q
  rw [eqv_pair]
  simp
end Pg
end
section
set_option Elab.async false
set_option linter.all false
set_option maxRecDepth 100000
/-! LB: the law's own step (numbers of k02) -/
namespace Pg
open PySem PySem.Spec PyProof.Rows L2 PySem.W FF
theorem fn_rt {Γ : Nat → FF.FunD} {f : Fn} {ws : List W} {v : W} {ρ : Sl} (hl : ws.length = f.n) (ho : ownOnly f.by_ 0 ws = true) (h : evSs Γ f.body (ws ++ List.replicate (f.slots - f.n) .un) = .rt v ρ) : evFn Γ f ws = .ok v (outsOf f.by_ 0 ws ρ) := by
  unfold evFn
  rw [if_pos ⟨hl, ho⟩, h]
theorem find_filter {α : Type} (q : α → Bool) : ∀ {xs : List α} {k : α}, xs.find? q = some k → ∃ r, xs.filter q = k :: r
  | [], _, h => by simp at h
  | x :: xs, k, h => by
    by_cases c : q x = true
    · rw [List.find?_cons_of_pos c] at h; cases h
      exact ⟨xs.filter q, by rw [List.filter_cons_of_pos c]⟩
    · rw [List.find?_cons_of_neg c] at h
      rw [List.filter_cons_of_neg c]
      exact find_filter q h
theorem fm_name (n : Str) : ∀ ks : List Kn, (ks.map knD).filterMap (fun x => match x with | .tuple (.str m :: r) => if m = n then some (PyData.tuple (.str m :: r)) else none | _ => none) = (ks.filter fun k => decide (k.name = n)).map knD
  | [] => rfl
  | k :: ks => by
    have ih := fm_name n ks
    have nm : knD k = .tuple [.str k.name, .tuple (k.pairs.map pD), .bool k.level] := rfl
    by_cases h : k.name = n
    · rw [List.filter_cons_of_pos (by simpa using h), List.map_cons, List.map_cons, List.filterMap_cons_some (b := knD k) (by rw [nm]; simp [h]), ih]
    · rw [List.filter_cons_of_neg (by simpa using h), List.map_cons, List.filterMap_cons_none (by rw [nm]; simp [h]), ih]
theorem g25_lc (Γ : Nat → FF.FunD) (X Y Z U V Wx L R S7 : W) (n : Str) (ps : List D) (ks : List Kn) (hl : ks.length ≤ 1000) :
    lcDo Γ [8] (.nm 8) (.cons (.cmp .eq (.idx (.var 8) (.k (.int 0))) (.idx (.var 2) (.k (.int 0)))) .nil) (.var 8) (ks.map knD) [] [X, Y, .d (.tuple (.str n :: ps)), Z, U, V, Wx, S7, .un, L, R] =
      .ok ((ks.filter fun k => decide (k.name = n)).map knD) [X, Y, .d (.tuple (.str n :: ps)), Z, U, V, Wx, S7, .un, L, R] := by
  have e := lcDo_map Γ (own := [8]) (t := .nm 8) (c := .cons (.cmp .eq (.idx (.var 8) (.k (.int 0))) (.idx (.var 2) (.k (.int 0)))) .nil) (e := .var 8)
    (f := fun x => match x with | .tuple (.str m :: r) => if m = n then some (PyData.tuple (.str m :: r)) else none | _ => none) (ρ := [X, Y, .d (.tuple (.str n :: ps)), Z, U, V, Wx, S7, .un, L, R]) (xs := ks.map knD) (by
      intro x hx
      obtain ⟨k, m, rfl⟩ := List.mem_map.mp hx
      have nm : knD k = .tuple [.str k.name, .tuple (k.pairs.map pD), .bool k.level] := rfl
      rw [nm]
      by_cases h : k.name = n
      · refine ⟨[X, Y, .d (.tuple (.str n :: ps)), Z, U, V, Wx, S7, .d (.tuple [.str k.name, .tuple (k.pairs.map pD), .bool k.level]), L, R], by simp [lcTurn, cmpD, h], by simp⟩
      · refine ⟨[X, Y, .d (.tuple (.str n :: ps)), Z, U, V, Wx, S7, .d (.tuple [.str k.name, .tuple (k.pairs.map pD), .bool k.level]), L, R], by simp [lcTurn, cmpD, h], by simp⟩) [] (by have := sx; simp; omega)
  rw [e, fm_name]
  rfl
/-- up to the other's spread -/
def upTo (h l r : Int) : Int := if l.fdiv h < r.fdiv h then r.fdiv h * h else l
theorem upTo_step {h l r : Int} (h2 : 2 ≤ h) (h6 : h ≤ 6) (c : l.fdiv h < r.fdiv h) : upTo h (l + 1) r = upTo h l r ∧ (r.fdiv h * h - (l + 1)).toNat + 1 = (r.fdiv h * h - l).toNat := by
  have hh : h = 2 ∨ h = 3 ∨ h = 4 ∨ h = 5 ∨ h = 6 := by omega
  unfold upTo
  rw [if_pos c]
  rcases hh with rfl | rfl | rfl | rfl | rfl <;> simp only [Int.fdiv_eq_ediv_of_nonneg _ (show (0:Int) ≤ 2 by decide), Int.fdiv_eq_ediv_of_nonneg _ (show (0:Int) ≤ 3 by decide), Int.fdiv_eq_ediv_of_nonneg _ (show (0:Int) ≤ 4 by decide), Int.fdiv_eq_ediv_of_nonneg _ (show (0:Int) ≤ 5 by decide), Int.fdiv_eq_ediv_of_nonneg _ (show (0:Int) ≤ 6 by decide)] at c ⊢ <;> (refine ⟨?_, by omega⟩; split <;> omega)
abbrev CL (i j : Nat) : E := .cmp .lt (.bin .fdiv (.var i) (.var 3)) (.bin .fdiv (.var j) (.var 3))
abbrev BL (i : Nat) : Ss := .cons (.asg (.nm i) (.bin .add (.var i) (.k (.int 1)))) .nil
theorem g25_left (Γ : Nat → FF.FunD) (X Y Z U V Wx S7 S8 : W) {h : Int} (r : Int) (h2 : 2 ≤ h) (h6 : h ≤ 6) : ∀ (m : Nat) (l : Int), (r.fdiv h * h - l).toNat ≤ m →
    whlDo Γ (CL 9 10) (BL 9) (m + 1) [X, Y, Z, .d (.int h), U, V, Wx, S7, S8, .d (.int l), .d (.int r)] = .nx [X, Y, Z, .d (.int h), U, V, Wx, S7, S8, .d (.int (upTo h l r)), .d (.int r)] := by
  have n0 : h ≠ 0 := by omega
  have n1 : h.natAbs < 1073741824 := by omega
  have hf : ∀ i : Int, binW .fdiv (.int i) (.int h) = some (.d (.int (i.fdiv h))) := fun i => fdiv_int i n0 n1
  intro m
  induction m with
  | zero =>
    intro l hm
    rw [whlDo_succ]
    have c : ¬ l.fdiv h < r.fdiv h := fun c => by have := (upTo_step h2 h6 c).2; omega
    simp [hf, c, upTo]
  | succ m ih =>
    intro l hm
    rw [whlDo_succ]
    by_cases c : l.fdiv h < r.fdiv h
    · obtain ⟨e1, e2⟩ := upTo_step h2 h6 c
      have := ih (l + 1) (by omega)
      simp [hf, c, this, e1]
    · simp [hf, c, upTo]
theorem g25_right (Γ : Nat → FF.FunD) (X Y Z U V Wx S7 S8 : W) {h : Int} (l : Int) (h2 : 2 ≤ h) (h6 : h ≤ 6) : ∀ (m : Nat) (r : Int), (l.fdiv h * h - r).toNat ≤ m →
    whlDo Γ (CL 10 9) (BL 10) (m + 1) [X, Y, Z, .d (.int h), U, V, Wx, S7, S8, .d (.int l), .d (.int r)] = .nx [X, Y, Z, .d (.int h), U, V, Wx, S7, S8, .d (.int l), .d (.int (upTo h r l))] := by
  have n0 : h ≠ 0 := by omega
  have n1 : h.natAbs < 1073741824 := by omega
  have hf : ∀ i : Int, binW .fdiv (.int i) (.int h) = some (.d (.int (i.fdiv h))) := fun i => fdiv_int i n0 n1
  intro m
  induction m with
  | zero =>
    intro r hm
    rw [whlDo_succ]
    have c : ¬ r.fdiv h < l.fdiv h := fun c => by have := (upTo_step h2 h6 c).2; omega
    simp [hf, c, upTo]
  | succ m ih =>
    intro r hm
    rw [whlDo_succ]
    by_cases c : r.fdiv h < l.fdiv h
    · obtain ⟨e1, e2⟩ := upTo_step h2 h6 c
      have := ih (r + 1) (by omega)
      simp [hf, c, this, e1]
    · simp [hf, c, upTo]
theorem fuel2 : ∃ N : Nat, FUEL = N + 1 := ⟨999999999999, rfl⟩
/-- how far apart -/
structure Near (l r : Int) : Prop where
  a : r - l ≤ 1000
  b : l - r ≤ 1000
theorem upTo_eq {h l r : Int} (c : ¬ l.fdiv h < r.fdiv h) : upTo h l r = l := by unfold upTo; rw [if_neg c]
theorem upTo_le {h l r : Int} (h2 : 2 ≤ h) (h6 : h ≤ 6) : (r.fdiv h * h - l).toNat ≤ (r - l).toNat := by
  have hh : h = 2 ∨ h = 3 ∨ h = 4 ∨ h = 5 ∨ h = 6 := by omega
  rcases hh with rfl | rfl | rfl | rfl | rfl <;> simp only [Int.fdiv_eq_ediv_of_nonneg _ (show (0:Int) ≤ 2 by decide), Int.fdiv_eq_ediv_of_nonneg _ (show (0:Int) ≤ 3 by decide), Int.fdiv_eq_ediv_of_nonneg _ (show (0:Int) ≤ 4 by decide), Int.fdiv_eq_ediv_of_nonneg _ (show (0:Int) ≤ 5 by decide), Int.fdiv_eq_ediv_of_nonneg _ (show (0:Int) ≤ 6 by decide)] <;> omega
theorem upTo_self {h l r : Int} (h2 : 2 ≤ h) (h6 : h ≤ 6) (c : l.fdiv h < r.fdiv h) : ¬ r.fdiv h < (upTo h l r).fdiv h := by
  have hh : h = 2 ∨ h = 3 ∨ h = 4 ∨ h = 5 ∨ h = 6 := by omega
  unfold upTo
  rw [if_pos c]
  rcases hh with rfl | rfl | rfl | rfl | rfl <;> simp only [Int.fdiv_eq_ediv_of_nonneg _ (show (0:Int) ≤ 2 by decide), Int.fdiv_eq_ediv_of_nonneg _ (show (0:Int) ≤ 3 by decide), Int.fdiv_eq_ediv_of_nonneg _ (show (0:Int) ≤ 4 by decide), Int.fdiv_eq_ediv_of_nonneg _ (show (0:Int) ≤ 5 by decide), Int.fdiv_eq_ediv_of_nonneg _ (show (0:Int) ≤ 6 by decide)] <;> omega
/-- the places where law begins -/
def lawBegin (b : Bk) (l r : Int) (level : Bool) : Int × Int :=
  let q := if level || (decide (b.l < r - l) || decide (b.l < l - r)) then (if r > l then r else l, if r > l then r else l) else (l, r)
  if b.hd then (upTo b.h q.1 q.2, upTo b.h q.2 (upTo b.h q.1 q.2)) else q
theorem lawBegin_eq (b : Bk) (l r : Int) (p : Pt) (level : Bool) (h2 : 2 ≤ b.h) (h6 : b.h ≤ 6) (l0 : 0 ≤ b.l) : lawBegin b l r level = begunAt b l r p level := by
  have e : (decide (b.l < r - l) || decide (b.l < l - r)) = decide (b.l < (if r - l < 0 then -(r - l) else r - l)) := by
    rw [Bool.eq_iff_iff]
    simp only [Bool.or_eq_true, decide_eq_true_eq]
    split <;> omega
  unfold lawBegin begunAt
  rw [e]
  generalize (if (level || decide (b.l < (if r - l < 0 then -(r - l) else r - l))) = true then (if r > l then r else l, if r > l then r else l) else (l, r)) = q
  obtain ⟨x, y⟩ := q
  dsimp only
  cases b.hd with
  | false => simp
  | true =>
    simp only [if_true, Bool.true_and, decide_eq_true_eq]
    by_cases c : x.fdiv b.h < y.fdiv b.h
    · rw [if_pos c, upTo_eq (l := y) (upTo_self h2 h6 c)]
      unfold upTo
      rw [if_pos c]
    · rw [if_neg c, upTo_eq c]
      unfold upTo
      by_cases c2 : y.fdiv b.h < x.fdiv b.h
      · rw [if_pos c2, if_pos c2]
      · rw [if_neg c2, if_neg c2]
theorem g25_big {h x y : Int} (h2 : 2 ≤ h) (h6 : h ≤ 6) (n : Near x y) {N : Nat} (fu : FUEL = N + 1) : (y.fdiv h * h - x).toNat ≤ N ∧ ((upTo h x y).fdiv h * h - y).toNat ≤ N := by
  have hN : N = 999999999999 := by have : FUEL = 1000000000000 := rfl; omega
  have a1 := upTo_le (l := x) (r := y) h2 h6
  have a2 := n.a
  have a3 := n.b
  refine ⟨by omega, ?_⟩
  by_cases c : x.fdiv h < y.fdiv h
  · have := upTo_le (l := y) (r := upTo h x y) h2 h6
    have h3 : upTo h x y ≤ y := by
      unfold upTo; rw [if_pos c]
      have := Int.emod_nonneg y (show h ≠ 0 by omega)
      rw [Int.fdiv_eq_ediv_of_nonneg _ (by omega)]
      have := Int.emod_add_mul_ediv y h
      have e : h * (y / h) = y / h * h := Int.mul_comm _ _
      omega
    omega
  · rw [upTo_eq c]
    have := upTo_le (l := y) (r := x) h2 h6
    omega
abbrev S5 : S := .if_ (.var 5) (.cons (.whl (CL 9 10) (BL 9)) (.cons (.whl (CL 10 9) (BL 10)) .nil)) .nil
theorem g25_s5 (Γ : Nat → FF.FunD) (X Y Z U V L S8 : W) {h x y : Int} (hd : Bool) (h2 : 2 ≤ h) (h6 : h ≤ 6) (n : Near x y) :
    evS Γ S5 [X, Y, Z, .d (.int h), U, .d (.bool hd), V, L, S8, .d (.int x), .d (.int y)] =
      .nx [X, Y, Z, .d (.int h), U, .d (.bool hd), V, L, S8, .d (.int (if hd then upTo h x y else x)), .d (.int (if hd then upTo h y (upTo h x y) else y))] := by
  obtain ⟨N, fu⟩ := fuel2
  cases hd with
  | false => simp
  | true =>
    obtain ⟨b1, b2⟩ := g25_big h2 h6 n fu
    have w1 := g25_left Γ X Y Z U (.d (.bool true)) V L S8 y h2 h6 N x b1
    have w2 := g25_right Γ X Y Z U (.d (.bool true)) V L S8 (upTo h x y) h2 h6 N y b2
    simp [fu, w1, w2]
abbrev S4 : S := .if_ (.or (.var 7) (.or (.cmp .gt (.bin .sub (.var 10) (.var 9)) (.var 4)) (.one (.cmp .gt (.bin .sub (.var 9) (.var 10)) (.var 4))))) (.cons (.par [9, 10] (.cons (.bi .max (.cons (.var 9) (.cons (.var 10) .nil))) (.cons (.bi .max (.cons (.var 9) (.cons (.var 10) .nil))) .nil))) .nil) .nil
theorem g25_s4 (Γ : Nat → FF.FunD) (X Y Z H V G S8 : W) {b l r : Int} (lv : Bool) :
    evS Γ S4 [X, Y, Z, H, .d (.int b), V, G, .d (.bool lv), S8, .d (.int l), .d (.int r)] =
      .nx [X, Y, Z, H, .d (.int b), V, G, .d (.bool lv), S8, .d (.int (if lv || (decide (b < r - l) || decide (b < l - r)) then (if r > l then r else l) else l)), .d (.int (if lv || (decide (b < r - l) || decide (b < l - r)) then (if r > l then r else l) else r))] := by
  have mx : ∀ i j : Int, biW .max [.int i, .int j] = some (.d (.int (if j > i then j else i))) := fun _ _ => rfl
  cases lv with
  | true => simp [mx, setAll]
  | false =>
    by_cases c1 : b < r - l
    · simp [mx, setAll, c1]
    · by_cases c2 : b < l - r
      · simp [mx, setAll, c1, c2]
      · simp [mx, setAll, c1, c2]
/-- _law_begin -/
theorem g25 (b : Bk) (l r : Int) (p : Pt) (k : Kn) (hk : fkind b.ks p.name = some k) (h2 : 2 ≤ b.h) (h6 : b.h ≤ 6) (hl : b.ks.length ≤ 1000) (nr : Near l r) :
    F32 [.d (bkD b), .d (pD (l, r)), .d (ptD p)] = .ok (.d (pD (lawBegin b l r k.level))) [.d (bkD b), .d (pD (l, r)), .d (ptD p)] := by
  obtain ⟨rest, hf⟩ := find_filter (fun k : Kn => decide (k.name = p.name)) hk
  have e1 := fun X Y Z U V Wx L R S7 => g25_lc (getL T32) X Y Z U V Wx L R S7 p.name [.int p.l, .int p.r] b.ks hl
  rw [hf] at e1
  have s2 : sizeLine ≥ 2 := by decide
  have nm : (ptD p) = .tuple [.str p.name, .int p.l, .int p.r] := rfl
  have kd : knD k = .tuple [.str k.name, .tuple (k.pairs.map pD), .bool k.level] := rfl
  have i00 : idxD (.list ((k :: rest).map knD)) (.int 0) = some (knD k) := by
    show L2.atI _ ((0 : Nat) : Int) = _
    rw [atI_nat _ _ (by simp)]; rfl
  have i2 : idxD (knD k) (.int 2) = some (.bool k.level) := idx2 _ _ _ _
  have q1 : evS (getL T32) (.asg (.tp (.cons (.nm 3) (.cons (.nm 4) (.cons (.nm 5) (.cons (.nm 6) .nil))))) (.var 0)) [.d (bkD b), .d (pD (l, r)), .d (ptD p), .un, .un, .un, .un, .un, .un, .un, .un] =
    .nx [.d (bkD b), .d (pD (l, r)), .d (ptD p), .d (.int b.h), .d (.int b.l), .d (.bool b.hd), .d (.tuple (b.ks.map knD)), .un, .un, .un, .un] := by
    simp [bkD, tsLen]
  have q2 : evS (getL T32) (.asg (.nm 7) (.idx (.idx (.lc [8] (.nm 8) (.lk 6) (.cons (.cmp .eq (.idx (.var 8) (.k (.int 0))) (.idx (.var 2) (.k (.int 0)))) .nil) (.var 8)) (.k (.int 0))) (.k (.int 2))))
    [.d (bkD b), .d (pD (l, r)), .d (ptD p), .d (.int b.h), .d (.int b.l), .d (.bool b.hd), .d (.tuple (b.ks.map knD)), .un, .un, .un, .un] =
    .nx [.d (bkD b), .d (pD (l, r)), .d (ptD p), .d (.int b.h), .d (.int b.l), .d (.bool b.hd), .d (.tuple (b.ks.map knD)), .d (.bool k.level), .un, .un, .un] := by
    have := e1 (.d (bkD b)) (.d (pD (l, r))) (.d (.int b.h)) (.d (.int b.l)) (.d (.bool b.hd)) (.d (.tuple (b.ks.map knD))) .un .un .un
    rw [← nm] at this
    generalize (k :: rest).map knD = G at this i00
    generalize b.ks.map knD = H at this
    simp [lockW, freeW, this, i00, i2]
  have q3 : ∀ A B C E1 E2 E3 E4 E5 E6 : W, evS (getL T32) (.asg (.tp (.cons (.nm 9) (.cons (.nm 10) .nil))) (.var 1)) [A, .d (pD (l, r)), C, E1, E2, E3, E4, E5, .un, .un, .un] = .nx [A, .d (pD (l, r)), C, E1, E2, E3, E4, E5, .un, .d (.int l), .d (.int r)] := by
    intro A B C E1 E2 E3 E4 E5 E6
    simp [pD, tsLen]
  have nr2 : Near (if k.level || (decide (b.l < r - l) || decide (b.l < l - r)) then (if r > l then r else l) else l) (if k.level || (decide (b.l < r - l) || decide (b.l < l - r)) then (if r > l then r else l) else r) := by
    split
    · exact ⟨by omega, by omega⟩
    · exact nr
  have q4 := fun A B C E1 G S8 => g25_s4 (getL T32) A B C E1 (.d (.bool b.hd)) G S8 (b := b.l) (l := l) (r := r) k.level
  have q5 := fun X Y Z U V L S8 => g25_s5 (getL T32) X Y Z U V L S8 b.hd h2 h6 nr2
  have lb : lawBegin b l r k.level = (if b.hd then upTo b.h (if k.level || (decide (b.l < r - l) || decide (b.l < l - r)) then (if r > l then r else l) else l) (if k.level || (decide (b.l < r - l) || decide (b.l < l - r)) then (if r > l then r else l) else r) else (if k.level || (decide (b.l < r - l) || decide (b.l < l - r)) then (if r > l then r else l) else l),
      if b.hd then upTo b.h (if k.level || (decide (b.l < r - l) || decide (b.l < l - r)) then (if r > l then r else l) else r) (upTo b.h (if k.level || (decide (b.l < r - l) || decide (b.l < l - r)) then (if r > l then r else l) else l) (if k.level || (decide (b.l < r - l) || decide (b.l < l - r)) then (if r > l then r else l) else r)) else (if k.level || (decide (b.l < r - l) || decide (b.l < l - r)) then (if r > l then r else l) else r)) := by
    unfold lawBegin
    cases b.hd <;> cases (k.level || (decide (b.l < r - l) || decide (b.l < l - r))) <;> rfl
  rw [lb]
  generalize (if k.level || (decide (b.l < r - l) || decide (b.l < l - r)) then (if r > l then r else l) else l) = x at q4 q5 nr2 ⊢
  generalize (if k.level || (decide (b.l < r - l) || decide (b.l < l - r)) then (if r > l then r else l) else r) = y at q4 q5 nr2 ⊢
  generalize (if b.hd then upTo b.h x y else x) = x' at q5 ⊢
  generalize (if b.hd then upTo b.h y (upTo b.h x y) else y) = y' at q5 ⊢
  have ho : ownOnly fn32.by_ 0 [.d (bkD b), .d (pD (l, r)), .d (ptD p)] = true := rfl
  generalize W.d (bkD b) = A at *
  generalize W.d (ptD p) = C at *
  have sr : ∀ X1 X3 X4 X5 X6 X7 X8 : W, evS (getL T32) (.ret (.tup (.cons (.var 9) (.cons (.var 10) .nil)))) [A, .d (pD (l, r)), C, X3, X4, X5, X6, X7, X8, .d (.int x'), .d (.int y')] = .rt (.d (pD (x', y'))) [A, .d (pD (l, r)), C, X3, X4, X5, X6, X7, X8, .d (.int x'), .d (.int y')] := by
    intros; simp [s2, pD]
  have key : evSs (getL T32) fn32.body [A, .d (pD (l, r)), C, .un, .un, .un, .un, .un, .un, .un, .un] = .rt (.d (pD (x', y'))) [A, .d (pD (l, r)), C, .d (.int b.h), .d (.int b.l), .d (.bool b.hd), .d (.tuple (b.ks.map knD)), .d (.bool k.level), .un, .d (.int x'), .d (.int y')] := by
    show evSs (getL T32) (.cons _ (.cons _ (.cons _ (.cons S4 (.cons S5 (.cons _ .nil)))))) _ = _
    rw [evSs_cons, q1, seq_nx, evSs_cons, q2, seq_nx, evSs_cons, q3 _ .un _ _ _ _ _ _ .un, seq_nx, evSs_cons, q4, seq_nx, evSs_cons, q5, seq_nx, evSs_cons, sr .un]
    rfl
  have := fn_rt (Γ := getL T32) (f := fn32) (ws := [A, .d (pD (l, r)), C]) rfl ho key
  exact this
end Pg
end
section
set_option Elab.async false
set_option linter.all false
set_option maxRecDepth 100000
/-! LC: the words that the law itself tells (numbers of k02) -/
namespace Pg
open PySem PySem.Spec PyProof.Rows L2 PySem.W FF
def mineL (l h : Int) (n : Nat) : List Int := (List.range n).map fun (i : Nat) => (l + (i : Nat)).fdiv h
theorem ne_nilI (xs : List Int) : cmpD .ne (.list (xs.map .int)) (.list []) = some (!xs.isEmpty) := ne_nil PyData.int (fun _ => rfl) (fun _ => by simp [PyData.depth]) xs
theorem eq_nilI (xs : List Int) : cmpD .eq (.list (xs.map .int)) (.list []) = some xs.isEmpty := by
  have e1 : eqOk (.list (xs.map PyData.int)) = true := eqOk_list PyData.int 5 (by decide) (fun _ => rfl) (fun _ => by simp [PyData.depth]) xs
  have e2 : eqOk (.list []) = true := rfl
  simp only [cmpD, e1, e2, Bool.and_self, if_true]
  cases xs with
  | nil => rfl
  | cons x xs => rfl
theorem any_int (i : Int) : ∀ xs : List Int, ((xs.map PyData.int).any fun z => PyData.eqv z (.int i)) = decide (i ∈ xs)
  | [] => rfl
  | x :: xs => by
    rw [List.map_cons, List.any_cons, any_int i xs, eqv_int]
    by_cases h : x = i
    · subst h; simp
    · have : ¬ i = x := fun z => h z.symm
      simp [h, this]
theorem in_ints (i : Int) (xs : List Int) : cmpD .isIn (.int i) (.list (xs.map .int)) = some (decide (i ∈ xs)) := by
  have e1 : eqOk (.int i) = true := rfl
  have e2 : eqOk (.list (xs.map PyData.int)) = true := eqOk_list PyData.int 5 (by decide) (fun _ => rfl) (fun _ => by simp [PyData.depth]) xs
  have a := any_int i xs
  generalize xs.map PyData.int = M at *
  simp only [cmpD, e1, e2, Bool.and_self, if_true, a]
theorem g26_lc (Γ : Nat → FF.FunD) (X Z S4 S6 S7 : W) {l h n : Int} (c : Int) (q : D) (hc : idxD q (.int c) = some (.int l)) (h2 : 2 ≤ h) (h6 : h ≤ 6) (n0 : 0 ≤ n) (n4 : n ≤ 1000) :
    lcDo Γ [5] (.nm 5) .nil (.bin .fdiv (.bin .add (.idx (.var 1) (.k (.int c))) (.var 5)) (.var 3)) (rangeD 0 n) [] [X, .d q, Z, .d (.int h), S4, .un, S6, S7] =
      .ok ((mineL l h n.toNat).map .int) [X, .d q, Z, .d (.int h), S4, .un, S6, S7] := by
  have m0 : h ≠ 0 := by omega
  have m1 : h.natAbs < 1073741824 := by omega
  have hf : ∀ i : Int, binW .fdiv (.int i) (.int h) = some (.d (.int (i.fdiv h))) := fun i => fdiv_int i m0 m1
  have ha : ∀ i j : Int, binW .add (.int i) (.int j) = some (.d (.int (i + j))) := fun _ _ => rfl
  have e := lcDo_map Γ (own := [5]) (t := .nm 5) (c := .nil) (e := .bin .fdiv (.bin .add (.idx (.var 1) (.k (.int c))) (.var 5)) (.var 3)) (f := fun x => match x with | .int i => some (PyData.int ((l + i).fdiv h)) | _ => none)
    (ρ := [X, .d q, Z, .d (.int h), S4, .un, S6, S7]) (xs := rangeD 0 n) (by
      intro x hx
      unfold rangeD at hx
      obtain ⟨i, _, rfl⟩ := List.mem_map.mp hx
      refine ⟨[X, .d q, Z, .d (.int h), S4, .d (.int (0 + (i : Nat))), S6, S7], ?_, by simp⟩
      generalize (0 : Int) + (i : Nat) = j
      simp [lcTurn, hc, ha, hf]) [] (by have := sx; simp [rangeD]; omega)
  rw [e]
  congr 1
  simp [rangeD, mineL, List.filterMap_map, Function.comp_def]
def inF (B : List Int) : D → Option D
  | .int i => if i ∈ B then some (PyData.int i) else none
  | _ => none
theorem fm_in (B : List Int) : ∀ A : List Int, (A.map PyData.int).filterMap (inF B) = (A.filter fun i => decide (i ∈ B)).map .int
  | [] => rfl
  | a :: A => by
    have ih := fm_in B A
    by_cases h : a ∈ B
    · rw [List.filter_cons_of_pos (by simpa using h), List.map_cons, List.map_cons, List.filterMap_cons_some (b := PyData.int a) (by simp [inF, h]), ih]
    · rw [List.filter_cons_of_neg (by simpa using h), List.map_cons, List.filterMap_cons_none (by simp [inF, h]), ih]
theorem g26_lc2 (Γ : Nat → FF.FunD) (X Y Z H S4 S5 : W) (A B : List Int) (hl : A.length ≤ 1000) :
    lcDo Γ [7] (.nm 7) (.cons (.cmp .isIn (.var 7) (.var 6)) .nil) (.var 7) (A.map .int) [] [X, Y, Z, H, S4, S5, .ol (B.map .int), .un] = .ok ((A.filter fun i => decide (i ∈ B)).map .int) [X, Y, Z, H, S4, S5, .ol (B.map .int), .un] := by
  have hin := fun i => in_ints i B
  have e := lcDo_map Γ (own := [7]) (t := .nm 7) (c := .cons (.cmp .isIn (.var 7) (.var 6)) .nil) (e := .var 7) (f := inF B)
    (ρ := [X, Y, Z, H, S4, S5, .ol (B.map .int), .un]) (xs := A.map .int) (by
      intro x hx
      obtain ⟨i, _, rfl⟩ := List.mem_map.mp hx
      have hi := hin i
      generalize B.map PyData.int = M at *
      by_cases h : i ∈ B
      · exact ⟨[X, Y, Z, H, S4, S5, .ol M, .d (.int i)], by simp [lcTurn, hi, h, inF], by simp⟩
      · exact ⟨[X, Y, Z, H, S4, S5, .ol M, .d (.int i)], by simp [lcTurn, hi, h, inF], by simp⟩) [] (by have := sx; simp; omega)
  rw [e, fm_in]
  rfl
def spoken (A B : List Int) : List D :=
  if A = [] ∨ B = [] ∨ A[0]? = B[0]? then [] else if (A.filter fun i => decide (i ∈ B)) ≠ [] then [.str "torn"] else [.str "apart", .str "torn"]
/-- _law_spoken -/
theorem g26 (b : Bk) (l r : Int) (p : Pt) (h2 : 2 ≤ b.h) (h6 : b.h ≤ 6) (p1 : 0 ≤ p.l) (p2 : p.l ≤ 1000) (p3 : 0 ≤ p.r) (p4 : p.r ≤ 1000) :
    F33 [.d (bkD b), .d (pD (l, r)), .d (ptD p)] = .ok (.d (.tuple (spoken (mineL l b.h p.l.toNat) (mineL r b.h p.r.toNat)))) [.d (bkD b), .d (pD (l, r)), .d (ptD p)] := by
  have s2 : sizeLine ≥ 2 := by decide
  have s1 : sizeLine ≥ 1 := by decide
  have l1 := fun X Z S4 S6 S7 => g26_lc (getL T33) X Z S4 S6 S7 0 (pD (l, r)) (idx0 _ _) h2 h6 p1 p2
  have l2 := fun X Z S4 S6 S7 => g26_lc (getL T33) X Z S4 S6 S7 1 (pD (l, r)) (idx1 _ _ _) h2 h6 p3 p4
  have lenA : (mineL l b.h p.l.toNat).length ≤ 1000 := by simp [mineL]; omega
  have l3 := fun X Y Z H S4 S5 B => g26_lc2 (getL T33) X Y Z H S4 S5 (mineL l b.h p.l.toNat) B lenA
  have ok1 : rangeOk 0 p.l = true := by simp [rangeOk]; omega
  have ok2 : rangeOk 0 p.r = true := by simp [rangeOk]; omega
  have b0 : idxD (bkD b) (.int 0) = some (.int b.h) := idx0 _ _
  have t1 : idxD (ptD p) (.int 1) = some (.int p.l) := idx1 _ _ _
  have t2 : idxD (ptD p) (.int 2) = some (.int p.r) := idx2 _ _ _ _
  generalize mineL l b.h p.l.toNat = A at *
  generalize mineL r b.h p.r.toNat = B at *
  have eA := eq_nilI A
  have eB := eq_nilI B
  have eC := ne_nilI (A.filter fun i => decide (i ∈ B))
  have ho : ownOnly fn33.by_ 0 [.d (bkD b), .d (pD (l, r)), .d (ptD p)] = true := rfl
  have l3 := fun X Y Z H S4 S5 => l3 X Y Z H S4 S5 B
  have q1 : evS (getL T33) (.asg (.nm 3) (.idx (.var 0) (.k (.int 0)))) [.d (bkD b), .d (pD (l, r)), .d (ptD p), .un, .un, .un, .un, .un] = .nx [.d (bkD b), .d (pD (l, r)), .d (ptD p), .d (.int b.h), .un, .un, .un, .un] := by
    generalize bkD b = K at *
    simp [b0]
  have q2 : evS (getL T33) (.asg (.nm 4) (.lc [5] (.nm 5) (.r1 (.idx (.var 2) (.k (.int 1)))) .nil (.bin .fdiv (.bin .add (.idx (.var 1) (.k (.int 0))) (.var 5)) (.var 3)))) [.d (bkD b), .d (pD (l, r)), .d (ptD p), .d (.int b.h), .un, .un, .un, .un] =
      .nx [.d (bkD b), .d (pD (l, r)), .d (ptD p), .d (.int b.h), .ol (A.map .int), .un, .un, .un] := by
    generalize bkD b = K at *
    generalize pD (l, r) = Y at *
    generalize ptD p = Z at *
    generalize A.map PyData.int = M at *
    simp [t1, ok1, l1, freeW]
  have q3 : evS (getL T33) (.asg (.nm 6) (.lc [5] (.nm 5) (.r1 (.idx (.var 2) (.k (.int 2)))) .nil (.bin .fdiv (.bin .add (.idx (.var 1) (.k (.int 1))) (.var 5)) (.var 3)))) [.d (bkD b), .d (pD (l, r)), .d (ptD p), .d (.int b.h), .ol (A.map .int), .un, .un, .un] =
      .nx [.d (bkD b), .d (pD (l, r)), .d (ptD p), .d (.int b.h), .ol (A.map .int), .un, .ol (B.map .int), .un] := by
    generalize bkD b = K at *
    generalize pD (l, r) = Y at *
    generalize ptD p = Z at *
    generalize A.map PyData.int = M at *
    generalize B.map PyData.int = M2 at *
    simp [t2, ok2, l2, freeW]
  have q4 : evSs (getL T33) (.cons (.if_ (.or (.cmp .eq (.var 4) (.lst .nil)) (.or (.cmp .eq (.var 6) (.lst .nil)) (.one (.cmp .eq (.idx (.var 4) (.k (.int 0))) (.idx (.var 6) (.k (.int 0))))))) (.cons (.ret (.tup .nil)) .nil) .nil)
      (.cons (.ret (.ife (.cmp .ne (.lc [7] (.nm 7) (.lk 4) (.cons (.cmp .isIn (.var 7) (.var 6)) .nil) (.var 7)) (.lst .nil)) (.tup (.cons (.k (.str "torn")) .nil)) (.tup (.cons (.k (.str "apart")) (.cons (.k (.str "torn")) .nil))))) .nil))
      [.d (bkD b), .d (pD (l, r)), .d (ptD p), .d (.int b.h), .ol (A.map .int), .un, .ol (B.map .int), .un] = .rt (.d (.tuple (spoken A B))) [.d (bkD b), .d (pD (l, r)), .d (ptD p), .d (.int b.h), .ol (A.map .int), .un, .ol (B.map .int), .un] := by
    generalize bkD b = K at *
    generalize pD (l, r) = Y at *
    generalize ptD p = Z at *
    by_cases hA : A = []
    · have e : A.isEmpty = true := by rw [hA]; rfl
      have sp : spoken A B = [] := by unfold spoken; rw [if_pos (.inl hA)]
      rw [e] at eA
      rw [sp]
      generalize A.map PyData.int = M at *
      generalize B.map PyData.int = M2 at *
      simp [eA]
    · by_cases hB : B = []
      · have e : A.isEmpty = false := by cases A <;> simp_all
        have e2 : B.isEmpty = true := by rw [hB]; rfl
        have sp : spoken A B = [] := by unfold spoken; rw [if_pos (.inr (.inl hB))]
        rw [e] at eA
        rw [e2] at eB
        rw [sp]
        generalize A.map PyData.int = M at *
        generalize B.map PyData.int = M2 at *
        simp [eA, eB]
      · have e : A.isEmpty = false := by cases A <;> simp_all
        have e2 : B.isEmpty = false := by cases B <;> simp_all
        obtain ⟨a, A', rfl⟩ : ∃ a A', A = a :: A' := by cases A with | nil => exact absurd rfl hA | cons a A' => exact ⟨a, A', rfl⟩
        obtain ⟨c, B', rfl⟩ : ∃ c B', B = c :: B' := by cases B with | nil => exact absurd rfl hB | cons a A' => exact ⟨a, A', rfl⟩
        have iA : idxD (.list ((a :: A').map PyData.int)) (.int 0) = some (.int a) := by
          show L2.atI _ ((0 : Nat) : Int) = _
          rw [atI_nat _ _ (by simp)]; rfl
        have iB : idxD (.list ((c :: B').map PyData.int)) (.int 0) = some (.int c) := by
          show L2.atI _ ((0 : Nat) : Int) = _
          rw [atI_nat _ _ (by simp)]; rfl
        have l3' := l3 (.d K) (.d Y) (.d Z) (.d (.int b.h)) (.ll ((a :: A').map .int)) .un
        rw [e] at eA
        rw [e2] at eB
        by_cases hac : a = c
        · have sp : spoken (a :: A') (c :: B') = [] := by unfold spoken; rw [if_pos (.inr (.inr (by rw [hac]; rfl)))]
          rw [sp]
          have ec := eq_int a c
          rw [decide_eq_true hac] at ec
          generalize (a :: A').map PyData.int = M at *
          generalize (c :: B').map PyData.int = M2 at *
          simp [eA, eB, iA, iB, ec]
        · have ec := eq_int a c
          rw [decide_eq_false hac] at ec
          by_cases hf : ((a :: A').filter fun i => decide (i ∈ c :: B')) = []
          · have sp : spoken (a :: A') (c :: B') = [.str "apart", .str "torn"] := by
              unfold spoken
              rw [if_neg (by intro z; rcases z with z | z | z; cases z; cases z; simp at z; exact hac z), if_neg (fun z => z hf)]
            have e3 : ((a :: A').filter fun i => decide (i ∈ c :: B')).isEmpty = true := by rw [hf]; rfl
            rw [e3] at eC
            rw [sp]
            generalize ((a :: A').filter fun i => decide (i ∈ c :: B')).map PyData.int = M3 at *
            generalize (a :: A').map PyData.int = M at *
            generalize (c :: B').map PyData.int = M2 at *
            simp [eA, eB, iA, iB, ec, lockW, freeW, l3', eC, s1, s2]
          · have sp : spoken (a :: A') (c :: B') = [.str "torn"] := by
              unfold spoken
              rw [if_neg (by intro z; rcases z with z | z | z; cases z; cases z; simp at z; exact hac z), if_pos hf]
            have e3 : ((a :: A').filter fun i => decide (i ∈ c :: B')).isEmpty = false := by
              generalize ((a :: A').filter fun i => decide (i ∈ c :: B')) = G at hf
              cases G <;> simp_all
            rw [e3] at eC
            rw [sp]
            generalize ((a :: A').filter fun i => decide (i ∈ c :: B')).map PyData.int = M3 at *
            generalize (a :: A').map PyData.int = M at *
            generalize (c :: B').map PyData.int = M2 at *
            simp [eA, eB, iA, iB, ec, lockW, freeW, l3', eC, s1, s2]
  have key : evSs (getL T33) fn33.body [.d (bkD b), .d (pD (l, r)), .d (ptD p), .un, .un, .un, .un, .un] = .rt (.d (.tuple (spoken A B))) [.d (bkD b), .d (pD (l, r)), .d (ptD p), .d (.int b.h), .ol (A.map .int), .un, .ol (B.map .int), .un] := by
    show evSs (getL T33) (.cons _ (.cons _ (.cons _ (.cons _ (.cons _ .nil))))) _ = _
    rw [evSs_cons, q1, seq_nx, evSs_cons, q2, seq_nx, evSs_cons, q3, seq_nx, q4]
  exact fn_rt (Γ := getL T33) (f := fn33) (ws := [.d (bkD b), .d (pD (l, r)), .d (ptD p)]) rfl ho key
end Pg
end
section
set_option Elab.async false
set_option linter.all false
set_option maxRecDepth 100000
/-! LD: the law's own step is the program's (numbers of k02) -/
namespace Pg
open PySem PySem.Spec PyProof.Rows L2 PySem.W FF
theorem overlap {h l r n m : Int} (h2 : 2 ≤ h) (h6 : h ≤ 6) (n1 : 1 ≤ n) (m1 : 1 ≤ m) :
    (∃ i j : Int, 0 ≤ i ∧ i < n ∧ 0 ≤ j ∧ j < m ∧ (l + i).fdiv h = (r + j).fdiv h) ↔ ¬ ((l + n - 1).fdiv h < r.fdiv h ∨ (r + m - 1).fdiv h < l.fdiv h) := by
  have hh : h = 2 ∨ h = 3 ∨ h = 4 ∨ h = 5 ∨ h = 6 := by omega
  constructor
  · rintro ⟨i, j, i0, i1, j0, j1, e⟩
    rcases hh with rfl | rfl | rfl | rfl | rfl <;> simp only [Int.fdiv_eq_ediv_of_nonneg _ (show (0:Int) ≤ 2 by decide), Int.fdiv_eq_ediv_of_nonneg _ (show (0:Int) ≤ 3 by decide), Int.fdiv_eq_ediv_of_nonneg _ (show (0:Int) ≤ 4 by decide), Int.fdiv_eq_ediv_of_nonneg _ (show (0:Int) ≤ 5 by decide), Int.fdiv_eq_ediv_of_nonneg _ (show (0:Int) ≤ 6 by decide)] at e ⊢ <;> omega
  · intro c
    by_cases g : l.fdiv h < r.fdiv h
    · refine ⟨r.fdiv h * h - l, 0, ?_⟩
      rcases hh with rfl | rfl | rfl | rfl | rfl <;> simp only [Int.fdiv_eq_ediv_of_nonneg _ (show (0:Int) ≤ 2 by decide), Int.fdiv_eq_ediv_of_nonneg _ (show (0:Int) ≤ 3 by decide), Int.fdiv_eq_ediv_of_nonneg _ (show (0:Int) ≤ 4 by decide), Int.fdiv_eq_ediv_of_nonneg _ (show (0:Int) ≤ 5 by decide), Int.fdiv_eq_ediv_of_nonneg _ (show (0:Int) ≤ 6 by decide)] at c g ⊢ <;> omega
    · by_cases g2 : r.fdiv h < l.fdiv h
      · refine ⟨0, l.fdiv h * h - r, ?_⟩
        rcases hh with rfl | rfl | rfl | rfl | rfl <;> simp only [Int.fdiv_eq_ediv_of_nonneg _ (show (0:Int) ≤ 2 by decide), Int.fdiv_eq_ediv_of_nonneg _ (show (0:Int) ≤ 3 by decide), Int.fdiv_eq_ediv_of_nonneg _ (show (0:Int) ≤ 4 by decide), Int.fdiv_eq_ediv_of_nonneg _ (show (0:Int) ≤ 5 by decide), Int.fdiv_eq_ediv_of_nonneg _ (show (0:Int) ≤ 6 by decide)] at c g g2 ⊢ <;> omega
      · refine ⟨0, 0, by omega, by omega, by omega, by omega, ?_⟩
        have : l.fdiv h = r.fdiv h := by omega
        simpa using this
theorem mem_mine {l h : Int} {n : Nat} {x : Int} : x ∈ mineL l h n ↔ ∃ i : Int, 0 ≤ i ∧ i < n ∧ x = (l + i).fdiv h := by
  unfold mineL
  rw [List.mem_map]
  constructor
  · rintro ⟨i, m, rfl⟩
    exact ⟨i, by omega, by have := List.mem_range.mp m; omega, rfl⟩
  · rintro ⟨i, i0, i1, rfl⟩
    exact ⟨i.toNat, List.mem_range.mpr (by omega), by rw [Int.toNat_of_nonneg i0]⟩
theorem mine_nil {l h : Int} {n : Nat} : mineL l h n = [] ↔ n = 0 := by simp [mineL]
theorem mine_head {l h : Int} {n : Nat} (hn : n ≠ 0) : (mineL l h n)[0]? = some (l.fdiv h) := by
  unfold mineL
  rw [List.getElem?_map, List.getElem?_range (by omega)]
  simp
theorem spoken_eq {h l r : Int} {p : Pt} (h2 : 2 ≤ h) (h6 : h ≤ 6) (p1 : 0 ≤ p.l) (p3 : 0 ≤ p.r) : spoken (mineL l h p.l.toNat) (mineL r h p.r.toNat) = wordsAt h l r p := by
  unfold spoken wordsAt
  by_cases a : p.l = 0
  · rw [if_pos (.inl (mine_nil.mpr (by omega))), if_pos (.inl a)]
  · by_cases b : p.r = 0
    · rw [if_pos (.inr (.inl (mine_nil.mpr (by omega)))), if_pos (.inr (.inl b))]
    · rw [mine_head (by omega), mine_head (by omega)]
      by_cases c : l.fdiv h = r.fdiv h
      · rw [if_pos (.inr (.inr (by rw [c]))), if_pos (.inr (.inr c))]
      · have n1 : ¬ (mineL l h p.l.toNat = [] ∨ mineL r h p.r.toNat = [] ∨ some (l.fdiv h) = some (r.fdiv h)) := by
          intro z
          rcases z with z | z | z
          · exact absurd (mine_nil.mp z) (by omega)
          · exact absurd (mine_nil.mp z) (by omega)
          · exact c (Option.some.inj z)
        have n2 : ¬ (p.l = 0 ∨ p.r = 0 ∨ l.fdiv h = r.fdiv h) := by
          intro z
          rcases z with z | z | z
          · exact a z
          · exact b z
          · exact c z
        rw [if_neg n1, if_neg n2]
        have ov := overlap (l := l) (r := r) (n := p.l) (m := p.r) h2 h6 (by omega) (by omega)
        have ex : ((mineL l h p.l.toNat).filter fun i => decide (i ∈ mineL r h p.r.toNat)) ≠ [] ↔ ∃ i j : Int, 0 ≤ i ∧ i < p.l ∧ 0 ≤ j ∧ j < p.r ∧ (l + i).fdiv h = (r + j).fdiv h := by
          rw [Ne, List.filter_eq_nil_iff]
          constructor
          · intro z
            have : ∃ x ∈ mineL l h p.l.toNat, x ∈ mineL r h p.r.toNat := by
              refine Classical.byContradiction fun q => z fun x hx => ?_
              simpa using fun hy => q ⟨x, hx, hy⟩
            obtain ⟨x, hx, hy⟩ := this
            obtain ⟨i, i0, i1, e1⟩ := mem_mine.mp hx
            obtain ⟨j, j0, j1, e2⟩ := mem_mine.mp hy
            exact ⟨i, j, i0, by omega, j0, by omega, e1.symm.trans e2⟩
          · rintro ⟨i, j, i0, i1, j0, j1, e⟩ z
            have := z _ (mem_mine.mpr ⟨i, i0, by omega, rfl⟩)
            simp only [decide_eq_true_eq] at this
            exact this (mem_mine.mpr ⟨j, j0, by omega, e⟩)
        by_cases g : (l + p.l - 1).fdiv h < r.fdiv h ∨ (r + p.r - 1).fdiv h < l.fdiv h
        · rw [if_pos g, if_neg (fun z => (ov.mp (ex.mp z)) g)]
        · rw [if_neg g, if_pos (ex.mpr (ov.mpr g))]
end Pg
end
section
set_option Elab.async false
set_option linter.all false
set_option maxRecDepth 100000
set_option maxHeartbeats 1000000
/-! LE: law's step is the program's (numbers of k02) -/
namespace Pg
open PySem PySem.Spec PyProof.Rows L2 PySem.W FF
theorem more_eq {h x y : Int} (h2 : 2 ≤ h) (h6 : h ≤ 6) : (x - 1).fdiv h - (y - 1).fdiv h = (x + h - 1).fdiv h - (y + h - 1).fdiv h := by
  have hh : h = 2 ∨ h = 3 ∨ h = 4 ∨ h = 5 ∨ h = 6 := by omega
  rcases hh with rfl | rfl | rfl | rfl | rfl <;> simp only [Int.fdiv_eq_ediv_of_nonneg _ (show (0:Int) ≤ 2 by decide), Int.fdiv_eq_ediv_of_nonneg _ (show (0:Int) ≤ 3 by decide), Int.fdiv_eq_ediv_of_nonneg _ (show (0:Int) ≤ 4 by decide), Int.fdiv_eq_ediv_of_nonneg _ (show (0:Int) ≤ 5 by decide), Int.fdiv_eq_ediv_of_nonneg _ (show (0:Int) ≤ 6 by decide)] <;> omega
end Pg
end
section
set_option Elab.async false
set_option linter.all false
set_option maxRecDepth 100000
set_option maxHeartbeats 1000000
/-! LG: after, good and bad (numbers of k02) -/
namespace Pg
open PySem PySem.Spec PyProof.Rows L2 PySem.W FF
theorem f0_bool (c : Bool) (lo hi : Int) : F0 [.d (.bool c), .d (.int lo), .d (.int hi)] = .ok (.d (.bool false)) [.d (.bool c), .d (.int lo), .d (.int hi)] := by
  have i1 : isiW .int (.bool c) = some (.d (.bool true)) := rfl
  have i2 : isiW .bool (.bool c) = some (.d (.bool true)) := rfl
  simp [F0, fn0, evFn, i1, i2]
theorem ne_int (i j : Int) : cmpD .ne (.int i) (.int j) = some (!decide (i = j)) := by
  have : ∀ i : Int, eqOk (.int i) = true := fun _ => rfl
  simp [cmpD, this, eqv_int]
theorem so2 (a b c d : D) : sameOwn [.d a, .d b] [.d c, .d d] = true := rfl
theorem so3 (a b c d e f : D) : sameOwn [.d a, .d b, .d c] [.d d, .d e, .d f] = true := rfl
end Pg
end
section
set_option Elab.async false
set_option linter.all false
set_option maxRecDepth 100000
set_option maxHeartbeats 1000000
/-! LH: no parts, no books (numbers of k02) -/
namespace Pg
open PySem PySem.Spec PyProof.Rows L2 PySem.W FF
theorem f8_none (K : D) : F8 [.d K, .d .none] = .ok (.d (.bool false)) [.d K, .d .none] := by
  have ty : isiW .tuple .none = some (.d (.bool false)) := rfl
  simp [F8, fn8, evFn, ty]
theorem f8_list (K : D) (n : Str) (i j : Int) : F8 [.d K, .d (.list [.str n, .int i, .int j])] = .ok (.d (.bool false)) [.d K, .d (.list [.str n, .int i, .int j])] := by
  have ty : isiW .tuple (.list [.str n, .int i, .int j]) = some (.d (.bool false)) := rfl
  simp [F8, fn8, evFn, ty]
theorem f8_two (K : D) (n : Str) (i : Int) : F8 [.d K, .d (.tuple [.str n, .int i])] = .ok (.d (.bool false)) [.d K, .d (.tuple [.str n, .int i])] := by
  have ty : isiW .tuple (.tuple [.str n, .int i]) = some (.d (.bool true)) := rfl
  have ln : biW .len [.tuple [.str n, .int i]] = some (.d (.int 2)) := rfl
  have n3 : cmpD .ne (.int 2) (.int 3) = some true := rfl
  simp [F8, fn8, evFn, ty, ln, n3]
theorem f8_four (K : D) (n : Str) (i j k : Int) : F8 [.d K, .d (.tuple [.str n, .int i, .int j, .int k])] = .ok (.d (.bool false)) [.d K, .d (.tuple [.str n, .int i, .int j, .int k])] := by
  have ty : isiW .tuple (.tuple [.str n, .int i, .int j, .int k]) = some (.d (.bool true)) := rfl
  have ln : biW .len [.tuple [.str n, .int i, .int j, .int k]] = some (.d (.int 4)) := rfl
  have n3 : cmpD .ne (.int 4) (.int 3) = some true := rfl
  simp [F8, fn8, evFn, ty, ln, n3]
theorem f8_bool (K : D) (n : Str) (c : Bool) (j : Int) : F8 [.d K, .d (.tuple [.str n, .bool c, .int j])] = .ok (.d (.bool false)) [.d K, .d (.tuple [.str n, .bool c, .int j])] := by
  have t0 : getL T8 0 = F0 := rfl
  have c1 := f0_bool c 0 4
  have ty : isiW .tuple (.tuple [.str n, .bool c, .int j]) = some (.d (.bool true)) := rfl
  have tys : isiW .str (.str n) = some (.d (.bool true)) := rfl
  have ln : biW .len [.tuple [.str n, .bool c, .int j]] = some (.d (.int 3)) := rfl
  have n3 : cmpD .ne (.int 3) (.int 3) = some false := rfl
  simp [F8, fn8, evFn, t0, doCall, putOuts, c1, ty, tys, ln, n3]
theorem f8_big (K : D) (n : Str) : F8 [.d K, .d (.tuple [.str n, .int 4, .int 9])] = .ok (.d (.bool false)) [.d K, .d (.tuple [.str n, .int 4, .int 9])] := by
  have t0 : getL T8 0 = F0 := rfl
  have c1 : F0 [.d (.int 4), .d (.int 0), .d (.int 4)] = .ok (.d (.bool true)) [.d (.int 4), .d (.int 0), .d (.int 4)] := f0_int 4 0 4
  have c2 : F0 [.d (.int 9), .d (.int 0), .d (.int 4)] = .ok (.d (.bool false)) [.d (.int 9), .d (.int 0), .d (.int 4)] := f0_int 9 0 4
  have ty : isiW .tuple (.tuple [.str n, .int 4, .int 9]) = some (.d (.bool true)) := rfl
  have tys : isiW .str (.str n) = some (.d (.bool true)) := rfl
  have ln : biW .len [.tuple [.str n, .int 4, .int 9]] = some (.d (.int 3)) := rfl
  have n3 : cmpD .ne (.int 3) (.int 3) = some false := rfl
  simp [F8, fn8, evFn, t0, doCall, putOuts, c1, c2, ty, tys, ln, n3]
theorem f8_zz {b : Bk} (w : WF b) : F8 [.d (bkD b), .d (.tuple [.str "zz", .int 1, .int 2])] = .ok (.d (.bool false)) [.d (bkD b), .d (.tuple [.str "zz", .int 1, .int 2])] := by
  have t0 : getL T8 0 = F0 := rfl
  have t7 : getL T8 7 = F7 := rfl
  have e7 := w.f7
  have c1 : F0 [.d (.int 1), .d (.int 0), .d (.int 4)] = .ok (.d (.bool true)) [.d (.int 1), .d (.int 0), .d (.int 4)] := f0_int 1 0 4
  have c2 : F0 [.d (.int 2), .d (.int 0), .d (.int 4)] = .ok (.d (.bool true)) [.d (.int 2), .d (.int 0), .d (.int 4)] := f0_int 2 0 4
  have ty : isiW .tuple (.tuple [.str "zz", .int 1, .int 2]) = some (.d (.bool true)) := rfl
  have tys : isiW .str (.str "zz") = some (.d (.bool true)) := rfl
  have ln : biW .len [.tuple [.str "zz", .int 1, .int 2]] = some (.d (.int 3)) := rfl
  have n3 : cmpD .ne (.int 3) (.int 3) = some false := rfl
  have hin : cmpD .isIn (.tuple [.str "zz", .int 1, .int 2]) (.list ((partsOf b.ks).map ptD)) = some false := by
    have := in_parts ⟨"zz", 1, 2⟩ (partsOf b.ks)
    have no : (⟨"zz", 1, 2⟩ : Pt) ∉ partsOf b.ks := by
      intro m
      obtain ⟨k, hk, e, _⟩ := mem_parts.mp m
      have := menus_menu w.names k.name (List.mem_map.mpr ⟨k, hk, rfl⟩)
      rw [← e] at this
      revert this
      decide
    rw [decide_eq_false no] at this
    exact this
  generalize bkD b = K at *
  generalize (partsOf b.ks).map ptD = M at *
  simp [F8, fn8, evFn, t0, t7, doCall, putOuts, c1, c2, e7, ty, tys, ln, n3, hin]
end Pg
end
section
set_option Elab.async false
set_option linter.all false
set_option maxRecDepth 100000
namespace Pg
open PySem PySem.Spec PyProof.Rows L2 PySem.W FF
@[simp] theorem idxL0 (x : D) (xs : List D) : idxD (.list (x :: xs)) (.int 0) = some x := by
  simpa [idxD] using atI_nat (x :: xs) 0 (by simp)
@[simp] theorem idxL1 (x y : D) (xs : List D) : idxD (.list (x :: y :: xs)) (.int 1) = some y := by
  simpa [idxD] using atI_nat (x :: y :: xs) 1 (by simp)
abbrev well (a b : Int) : W := .ol [.int a, .int b]
theorem modI (i : Int) {j : Int} (h : 0 < j) : binW .mod (.int i) (.int j) = some (.d (.int (i % j))) := by
  rw [mod_int i (by omega), Int.fmod_eq_emod_of_nonneg _ (by omega)]
theorem fdivI (i : Int) {j : Int} (h : 0 < j) (h' : j < 1073741824) : binW .fdiv (.int i) (.int j) = some (.d (.int (i / j))) := by
  rw [fdiv_int i (by omega) (by omega), Int.fdiv_eq_ediv_of_nonneg _ (by omega)]
theorem mulR (i : Int) {j : Int} (h : -(2 ^ 64) < j) (h' : j < 2 ^ 64) : binW .mul (.int i) (.int j) = some (.d (.int (i * j))) := by
  apply FF.mul_int
  have : (decide (-(2 ^ 64) < j) && decide (j < 2 ^ 64)) = true := by
    simp only [Bool.and_eq_true, decide_eq_true_eq]
    omega
  simp only [mulOk, this, Bool.true_or, Bool.or_true]
theorem mulL {i : Int} (j : Int) (h : -(2 ^ 64) < i) (h' : i < 2 ^ 64) : binW .mul (.int i) (.int j) = some (.d (.int (i * j))) := by
  apply FF.mul_int
  have : (decide (-(2 ^ 64) < i) && decide (i < 2 ^ 64)) = true := by
    simp only [Bool.and_eq_true, decide_eq_true_eq]
    omega
  simp only [mulOk, this, Bool.true_or, Bool.or_true]
theorem int_int (i : Int) : biW .int [.int i] = some (.d (.int i)) := rfl
/-- _law_take -/
theorem f27 (a b n : Int) (ha : 0 ≤ a) (hb : 0 ≤ b) (hn : 1 ≤ n) (hm : n ≤ 32768) : CK (F25 [well a b, .d (.int n)]) fun w o => ∃ v a' b', w = .d (.int v) ∧ o = [well a' b', .d (.int n)] ∧ 0 ≤ v ∧ v < n ∧ 0 ≤ a' ∧ 0 ≤ b' := by
  have m1 := fun i => modI i (show 0 < n by omega)
  have m2 := fun i => fdivI i (show 0 < n by omega) (by omega)
  by_cases h : 0 < a
  · have r1 := Int.emod_nonneg a (show n ≠ 0 by omega)
    have r2 := Int.emod_lt_of_pos a (show 0 < n by omega)
    have r3 := Int.ediv_nonneg ha (show 0 ≤ n by omega)
    refine CK_fn rfl rfl ?_
    have st : evSs (getL T25) fn25.body ([well a b, .d (.int n)] ++ List.replicate (fn25.slots - fn25.n) .un) = .rt (.d (.int (a % n))) [well (a / n) b, .d (.int n), .d (.int (a % n)), .un] := by
      simp [fn25, h, int_int, m1, m2, hasObj]
    rw [st, SK_rt]
    exact ⟨_, _, _, rfl, rfl, r1, r2, r3, hb⟩
  · refine CK_fn rfl rfl ?_
    obtain ⟨N, fu⟩ : ∃ N : Nat, FUEL = N + 1 + 1 := ⟨999999999998, rfl⟩
    have k1 := fun i => mulR i (j := 48271) (by decide) (by decide)
    have k2 := fun i => mulR i (j := 32768) (by decide) (by decide)
    have k3 := fun i => modI i (j := 2147483587) (by decide)
    have k4 := fun i => modI i (j := 32768) (by decide)
    have k5 := fun i => fdivI i (j := 40961) (by decide) (by decide)
    have s2 : sizeLine ≥ 2 := by decide
    have c0 : (decide ((1 : Int) < n) || decide ((1 : Int) = 1)) = true := by simp
    have n1 : ¬ (32768 : Int) < n := by omega
    generalize hb' : (b * 48271 + 11) % 2147483587 = b'
    have b0 : 0 ≤ b' := by rw [← hb']; exact Int.emod_nonneg _ (by decide)
    generalize hv : 0 * 32768 + b' / 40961 % 32768 = v
    have r1 := Int.emod_nonneg v (show n ≠ 0 by omega)
    have r2 := Int.emod_lt_of_pos v (show 0 < n by omega)
    have st : evSs (getL T25) fn25.body ([well a b, .d (.int n)] ++ List.replicate (fn25.slots - fn25.n) .un) = .rt (.d (.int (v % n))) [well a b', .d (.int n), .d (.int v), .d (.int 32768)] := by
      simp [fn25, h, int_int, m1, m2, hasObj, tsLen, s2, fu]
      rw [whlDo_succ]
      have ev : ∀ r : Int, evT (getL T25) (.or (.cmp .lt (.var 3) (.var 1)) (.one (.cmp .eq (.var 3) (.k (.int 1))))) [well a b, .d (.int n), .d (.int 0), .d (.int 1)] = .ok true [well a b, .d (.int n), .d (.int 0), .d (.int 1)] := by
        intro r
        by_cases q : 1 < n <;> simp [q, eq_int]
      rw [ev 0]
      simp [int_int, k1, k2, k3, k4, k5, hasObj, whlDo_succ, eq_int, n1, hb', hv, m1]
      simp at hv
      simp [hv]
    rw [st, SK_rt]
    exact ⟨_, _, _, rfl, rfl, r1, r2, ha, b0⟩
theorem idx_at {xs : List D} {v : Int} (h0 : 0 ≤ v) (h1 : v < xs.length) : ∃ x ∈ xs, idxD (.list xs) (.int v) = some x := by
  have hv : v = (v.toNat : Int) := by omega
  have hl : v.toNat < xs.length := by omega
  refine ⟨xs[v.toNat], List.getElem_mem hl, ?_⟩
  have := atI_nat xs v.toNat hl
  rw [← hv] at this
  simp only [idxD, this]
  simp [hl]
theorem len_list (xs : List D) : biW .len [.list xs] = some (.d (.int xs.length)) := rfl
/-- _law_any -/
theorem f28 {a b : Int} {w1 : W} {xs : List D} (ha : 0 ≤ a) (hb : 0 ≤ b) (h : w1 = .d (.list xs) ∨ w1 = .ol xs) (h1 : 1 ≤ xs.length) (h2 : xs.length ≤ 32768) :
    CK (F26 [well a b, w1]) fun w o => ∃ x a' b', x ∈ xs ∧ w = .d x ∧ o = [well a' b', w1] ∧ 0 ≤ a' ∧ 0 ≤ b' := by
  obtain ⟨_, _, e, v, a', b', rfl, rfl, v0, v1, a0, b0⟩ := (f27 a b xs.length ha hb (by omega) (by omega)).get
  obtain ⟨x, m, i⟩ := idx_at v0 v1
  have t : getL T26 25 = F25 := rfl
  refine CK.of (w := .d x) (o := [well a' b', w1]) ?_ ⟨x, a', b', m, rfl, rfl, a0, b0⟩
  rcases h with rfl | rfl
  · simp [F26, fn26, evFn, t, doCall, putOuts, len_list, e, i]
  · simp [F26, fn26, evFn, t, doCall, putOuts, len_list, e, i]
def menu4 : List (List Str) := [["a", "b", "c"], ["note", "text", "verse"], ["kind", "level", "pages"], ["b", "bb", "zzzzzzzz"]]
/-- _law_words_of -/
theorem f29 {a b : Int} (ha : 0 ≤ a) (hb : 0 ≤ b) :
    CK (F27 [well a b]) fun w o => ∃ ns a' b', ns ∈ menu4 ∧ w = .d (.list (ns.map .str)) ∧ o = [well a' b'] ∧ 0 ≤ a' ∧ 0 ≤ b' := by
  obtain ⟨_, _, e, x, a', b', m, rfl, rfl, a0, b0⟩ := (f28 (a := a) (b := b) (w1 := .d (.list (menu4.map fun ns => PyData.list (ns.map .str)))) ha hb (.inl rfl) (by decide) (by decide)).get
  obtain ⟨ns, hn, rfl⟩ := List.mem_map.mp m
  have t : getL T27 26 = F26 := rfl
  have s3 : sizeLine ≥ 3 := by decide
  have s1 : sizeLine ≥ 1 := by decide
  refine CK.of (w := .d (.list (ns.map .str))) (o := [well a' b']) ?_ ⟨ns, a', b', hn, rfl, rfl, a0, b0⟩
  simp only [menu4, List.map_cons, List.map_nil] at e
  generalize (PyData.list (ns.map .str)) = L at e ⊢
  have ad : ∀ A B C E : D, binW .add (.list [A, B, C]) (.list [E]) = some (.ol [A, B, C, E]) := fun _ _ _ _ => rfl
  simp [F27, fn27, evFn, t, doCall, putOuts, s3, s1, ad, e]
end Pg
end
section
set_option Elab.async false
set_option linter.all false
set_option maxRecDepth 100000
namespace Pg
open PySem PySem.Spec PyProof.Rows L2 PySem.W FF
/-! ### sorted pairs -/
def pLe (a b : Int × Int) : Bool := !pLt b a
def sortP (ps : List (Int × Int)) : List (Int × Int) := ps.mergeSort pLe
theorem pLt_iff {a b : Int × Int} : pLt a b = true ↔ a.1 < b.1 ∨ (a.1 = b.1 ∧ a.2 < b.2) := by simp [pLt]
theorem pLe_iff {a b : Int × Int} : pLe a b = true ↔ ¬ (b.1 < a.1 ∨ (b.1 = a.1 ∧ b.2 < a.2)) := by
  rw [← pLt_iff]; simp [pLe]
theorem dataLt_pD (a b : Int × Int) : PySem.W.dataLt (pD a) (pD b) = pLt a b := by
  rw [pD, pD, PySem.W.dataLt_ii]
  simp [pLt]
theorem sortD_pairs (ps : List (Int × Int)) : sortD (ps.map pD) = (sortP ps).map pD := by
  rw [sortD, sortP, List.map_mergeSort]
  intro a _ b _
  rw [dataLt_pD]
  rfl
theorem sortP_mem (ps : List (Int × Int)) (p : Int × Int) : p ∈ sortP ps ↔ p ∈ ps := (List.mergeSort_perm ps pLe).mem_iff
theorem sortP_len (ps : List (Int × Int)) : (sortP ps).length = ps.length := (List.mergeSort_perm ps pLe).length_eq
theorem sortP_asc {ps : List (Int × Int)} (h : ps.Nodup) : (sortP ps).Pairwise fun p q => pLt p q = true := by
  have h1 : (sortP ps).Pairwise fun a b => pLe a b = true := by
    apply List.pairwise_mergeSort
    · intro a b c; simp only [pLe_iff]; omega
    · intro a b; rw [Bool.or_eq_true, pLe_iff, pLe_iff]; omega
  have h2 : (sortP ps).Nodup := (List.mergeSort_perm ps pLe).nodup_iff.mpr h
  refine (h1.and h2).imp ?_
  intro a b ⟨x, y⟩
  rw [pLe_iff] at x
  rw [pLt_iff]
  have : ¬ (a.1 = b.1 ∧ a.2 = b.2) := fun q => y (Prod.ext q.1 q.2)
  omega
theorem sortOk_pairs (ps : List (Int × Int)) (hl : ps.length ≤ 1000) : sortOk (ps.map pD) = true := by
  have a1 : ((ps.map pD).all fun x => (ps.map pD).all fun y => PySem.W.alike x y) = true := by
    rw [List.all_map, List.all_eq_true]
    intro p _
    simp only [Function.comp_def]
    rw [List.all_map, List.all_eq_true]
    intro q _
    rfl
  have a2 : ((ps.map pD).all fun x => decide (x.depth ≤ 60) && x.plain) = true := by
    rw [List.all_map, List.all_eq_true]
    intro p _
    have := depth_pD p
    simp only [Function.comp_def, plain_pair, Bool.and_true, decide_eq_true_eq]
    omega
  have a3 : ((ps.map pD).all fun x => match x with | .tuple (_ :: _) => true | _ => false) = true := by
    rw [List.all_map, List.all_eq_true]
    intro p _
    rfl
  have a4 : (ps.map pD).length ≤ sizeLine := by have := sx; simp; omega
  simp only [sortOk, a1, a2, a4, decide_true, Bool.and_self]
  rw [Bool.true_and, Bool.or_eq_true]
  exact .inl a3
theorem notIn_pairs (p : Int × Int) (ps : List (Int × Int)) : cmpD .notIn (pD p) (.list (ps.map pD)) = some (!decide (p ∈ ps)) := by
  have b := eqOk_list pD 5 (by decide) plain_pair depth_pD ps
  simp only [cmpD, eqOk_pair, b, Bool.and_self, if_true, Option.some.injEq]
  congr 1
  rw [List.any_map]
  clear b
  induction ps with
  | nil => rfl
  | cons q qs ih =>
    simp only [List.any_cons, Function.comp_def, List.mem_cons] at ih ⊢
    rw [ih]
    have e : PyData.eqv (pD q) (pD p) = decide (p = q) := by
      obtain ⟨a, b⟩ := p
      obtain ⟨c, d⟩ := q
      rw [eqv_pair]
      by_cases x : c = a <;> by_cases y : d = b <;> simp [x, y] <;> intro z <;> omega
    rw [e]
    by_cases h : p = q <;> simp [h]
structure GP (m : Int) (p : Int × Int) : Prop where
  a : 0 ≤ p.1
  b : p.1 < m
  c : 0 ≤ p.2
  d : p.2 < m
  e : p ≠ (0, 0)
abbrev B30 : Ss := (.cons (.asg (.nm 5) (.tup (.cons (.call 25 (.cons (.var 0) (.cons (.var 3) .nil))) (.cons (.call 25 (.cons (.var 0) (.cons (.var 3) .nil))) .nil))))
    (.cons (.if_ (.and (.cmp .ne (.var 5) (.tup (.cons (.k (.int 0)) (.cons (.k (.int 0)) .nil)))) (.one (.cmp .notIn (.var 5) (.var 2)))) (.cons (.ex (.app 2 (.var 5)))
    .nil) .nil)
    .nil))
theorem f30_loop (m room : Int) (hm : 1 ≤ m) (hm' : m ≤ 5) : ∀ (xs : List D) (a b : Int) (fs : List (Int × Int)) (x4 x5 : W), 0 ≤ a → 0 ≤ b → fs.Nodup → (∀ p ∈ fs, GP m p) → fs.length + xs.length ≤ 1000 →
    SK (forDo (getL T28) (.nm 4) B30 xs [well a b, .d (.int room), .ol (fs.map pD), .d (.int m), x4, x5])
      (fun ρ => ∃ (a b : Int) (fs' : List (Int × Int)) (y4 y5 : W), 0 ≤ a ∧ 0 ≤ b ∧ fs'.Nodup ∧ (∀ p ∈ fs', GP m p) ∧ fs'.length ≤ fs.length + xs.length ∧ ρ = [well a b, .d (.int room), .ol (fs'.map pD), .d (.int m), y4, y5])
      (fun _ _ => False)
  | [], a, b, fs, x4, x5, ha, hb, nd, g, hl => ⟨a, b, fs, x4, x5, ha, hb, nd, g, by simp, rfl⟩
  | x :: xs, a, b, fs, x4, x5, ha, hb, nd, g, hl => by
    have t : getL T28 25 = F25 := rfl
    have s2 : sizeLine ≥ 2 := by decide
    obtain ⟨_, _, e1, v1, a1, b1, rfl, rfl, v10, v11, a10, b10⟩ := (f27 a b m ha hb hm (by omega)).get
    obtain ⟨_, _, e2, v2, a2, b2, rfl, rfl, v20, v21, a20, b20⟩ := (f27 a1 b1 m a10 b10 hm (by omega)).get
    have n1 : cmpD .ne (.tuple [.int v1, .int v2]) (.tuple [.int 0, .int 0]) = some (!decide ((v1, v2) = (0, 0))) := ne_pD (v1, v2) (0, 0)
    have n2 : cmpD .notIn (.tuple [.int v1, .int v2]) (.list (fs.map pD)) = some (!decide ((v1, v2) ∈ fs)) := notIn_pairs (v1, v2) fs
    simp only [List.length_cons] at hl ⊢
    have sz : fs.length < sizeLine := by have := sx; omega
    rw [forDo_cons, SK_seq]
    by_cases c : (v1, v2) ≠ (0, 0) ∧ (v1, v2) ∉ fs
    · have st : ((asgT (getL T28) (.nm 4) (.d x) [well a b, .d (.int room), .ol (fs.map pD), .d (.int m), x4, x5]).to fun _ ρ => evSs (getL T28) B30 ρ) =
          .nx [well a2 b2, .d (.int room), .ol (fs.map pD ++ [pD (v1, v2)]), .d (.int m), .d x, .d (pD (v1, v2))] := by
        rw [show (decide ((v1, v2) = (0, 0))) = false by simpa using c.1] at n1
        rw [show (decide ((v1, v2) ∈ fs)) = false by simpa using c.2] at n2
        have e0 : pD (v1, v2) = .tuple [.int v1, .int v2] := rfl
        rw [e0]
        simp [t, doCall, putOuts, e1, e2, s2, n1, n2, sz]
      rw [st, SK_nx]
      have e3 : fs.map pD ++ [pD (v1, v2)] = (fs ++ [(v1, v2)]).map pD := by simp
      rw [e3]
      refine (f30_loop m room hm hm' xs a2 b2 (fs ++ [(v1, v2)]) _ _ a20 b20 ?_ ?_ (by simp; omega)).imp ?_ (fun _ _ h => h)
      · rw [List.nodup_append]
        refine ⟨nd, by simp, ?_⟩
        intro p hp q hq
        simp at hq
        subst hq
        intro z
        exact c.2 (z ▸ hp)
      · intro p hp
        rcases List.mem_append.mp hp with hp | hp
        · exact g p hp
        · simp at hp; subst hp
          exact ⟨v10, v11, v20, v21, c.1⟩
      · rintro ρ ⟨a, b, fs', y4, y5, h1, h2, h3, h4, h5, h6⟩
        exact ⟨a, b, fs', y4, y5, h1, h2, h3, h4, by simp at h5; omega, h6⟩
    · have st : ((asgT (getL T28) (.nm 4) (.d x) [well a b, .d (.int room), .ol (fs.map pD), .d (.int m), x4, x5]).to fun _ ρ => evSs (getL T28) B30 ρ) =
          .nx [well a2 b2, .d (.int room), .ol (fs.map pD), .d (.int m), .d x, .d (pD (v1, v2))] := by
        have e0 : pD (v1, v2) = .tuple [.int v1, .int v2] := rfl
        rw [e0]
        by_cases c1 : (v1, v2) = (0, 0)
        · rw [show (decide ((v1, v2) = (0, 0))) = true by simpa using c1] at n1
          simp [t, doCall, putOuts, e1, e2, s2, n1]
        · have c2 : (v1, v2) ∈ fs := by
            by_cases q : (v1, v2) ∈ fs
            · exact q
            · exact absurd ⟨c1, q⟩ c
          rw [show (decide ((v1, v2) = (0, 0))) = false by simpa using c1] at n1
          rw [show (decide ((v1, v2) ∈ fs)) = true by simpa using c2] at n2
          simp [t, doCall, putOuts, e1, e2, s2, n1, n2]
      rw [st, SK_nx]
      refine (f30_loop m room hm hm' xs a2 b2 fs _ _ a20 b20 nd g (by omega)).imp ?_ (fun _ _ h => h)
      rintro ρ ⟨a, b, fs', y4, y5, h1, h2, h3, h4, h5, h6⟩
      exact ⟨a, b, fs', y4, y5, h1, h2, h3, h4, by omega, h6⟩
/-- what a kind's pairs are -/
structure WP (ps : List (Int × Int)) : Prop where
  l1 : 1 ≤ ps.length
  l3 : ps.length ≤ 3
  pr : ∀ p ∈ ps, 0 ≤ p.1 ∧ p.1 ≤ 4 ∧ 0 ≤ p.2 ∧ p.2 ≤ 4 ∧ p ≠ (0, 0)
  asc : ps.Pairwise fun p q => pLt p q = true
theorem ne_nil_pairs (ps : List (Int × Int)) : cmpD .ne (.list (ps.map pD)) (.list []) = some (!ps.isEmpty) := ne_nil pD plain_pair depth_pD ps
/-- _law_pairs -/
theorem f30 {a b room : Int} (ha : 0 ≤ a) (hb : 0 ≤ b) (hr : 1 ≤ room) (hr' : room ≤ 6) :
    CK (F28 [well a b, .d (.int room)]) fun w o => ∃ ps a' b', WP ps ∧ ps.length ≤ room ∧ w = .d (.tuple (ps.map pD)) ∧ o = [well a' b', .d (.int room)] ∧ 0 ≤ a' ∧ 0 ≤ b' := by
  obtain ⟨_, _, e, x, a1, b1, m, rfl, rfl, a0, b0⟩ := (f28 (a := a) (b := b) (w1 := .d (.list [.int 3, .int 3, .int 4, .int 5])) ha hb (.inl rfl) (by decide) (by decide)).get
  obtain ⟨mm, rfl, hm, hm'⟩ : ∃ n : Int, x = .int n ∧ 1 ≤ n ∧ n ≤ 5 := by
    simp only [List.mem_cons, List.not_mem_nil, or_false] at m
    rcases m with rfl | rfl | rfl | rfl
    · exact ⟨3, rfl, by decide, by decide⟩
    · exact ⟨3, rfl, by decide, by decide⟩
    · exact ⟨4, rfl, by decide, by decide⟩
    · exact ⟨5, rfl, by decide, by decide⟩
  have mn : biW .min [.int 3, .int room] = some (.d (.int (if room < 3 then room else 3))) := min_int 3 room
  generalize hk : (if room < 3 then room else 3) = k at mn
  have hk1 : 1 ≤ k ∧ k ≤ 3 ∧ k ≤ room := by subst hk; split <;> omega
  obtain ⟨_, _, e2, v, a2, b2, rfl, rfl, v0, v1, a20, b20⟩ := (f27 a1 b1 k a0 b0 hk1.1 (by omega)).get
  have t27 : getL T28 25 = F25 := rfl
  have t28 : getL T28 26 = F26 := rfl
  have s4 : sizeLine ≥ 4 := by decide
  have s2 : sizeLine ≥ 2 := by decide
  have s1 : sizeLine ≥ 1 := by decide
  have rk : rangeOk 0 (1 + v) = true := by simp [rangeOk]; omega
  have rl : (rangeD 0 (1 + v)).length = (1 + v).toNat := by simp [rangeD]
  refine CK_fn rfl rfl ?_
  have st : evSs (getL T28) fn28.body ([well a b, .d (.int room)] ++ List.replicate (fn28.slots - fn28.n) .un) =
      (forDo (getL T28) (.nm 4) B30 (rangeD 0 (1 + v)) [well a2 b2, .d (.int room), .ol [], .d (.int mm), .un, .un]).seq fun ρ => evSs (getL T28)
        (.cons (.ret (.ife (.cmp .ne (.var 2) (.lst .nil)) (.bi .tuple (.cons (.bi .sorted (.cons (.var 2) .nil)) .nil)) (.tup (.cons (.tup (.cons (.k (.int 1)) (.cons (.k (.int 2)) .nil))) .nil)))) .nil) ρ := by
    simp [fn28, t27, t28, doCall, putOuts, s4, e, e2, mn, setAll, rk]
  rw [st, SK_seq]
  have hv : (1 + v).toNat ≤ 3 ∧ ((1 + v).toNat : Int) ≤ room := by omega
  refine (f30_loop mm room hm hm' (rangeD 0 (1 + v)) a2 b2 [] .un .un a20 b20 .nil (by simp) (by simp [rl]; omega)).imp ?_ (fun _ _ h => h.elim)
  rintro ρ ⟨a3, b3, fs, y4, y5, h1, h2, h3, h4, h5, rfl⟩
  rw [rl] at h5
  simp only [List.length_nil, Nat.zero_add] at h5
  have c := ne_nil_pairs fs
  by_cases q : fs = []
  · subst q
    have st2 : evSs (getL T28) (.cons (.ret (.ife (.cmp .ne (.var 2) (.lst .nil)) (.bi .tuple (.cons (.bi .sorted (.cons (.var 2) .nil)) .nil)) (.tup (.cons (.tup (.cons (.k (.int 1)) (.cons (.k (.int 2)) .nil))) .nil)))) .nil)
        [well a3 b3, .d (.int room), .ol (([] : List (Int × Int)).map pD), .d (.int mm), y4, y5] = .rt (.d (.tuple [pD (1, 2)])) [well a3 b3, .d (.int room), .ol [], .d (.int mm), y4, y5] := by
      simp only [List.map_nil, List.isEmpty_nil, Bool.not_true] at c ⊢
      simp [c, s1, s2, pD]
    rw [st2, SK_rt]
    exact ⟨[(1, 2)], a3, b3, ⟨by simp, by simp, by intro p hp; simp at hp; subst hp; decide, by simp⟩, by simp; omega, rfl, rfl, h1, h2⟩
  · have c' : cmpD .ne (.list (fs.map pD)) (.list []) = some true := by
      rw [c]; cases fs <;> simp at q ⊢
    have so : biW .sorted [.list (fs.map pD)] = some (.ol ((sortP fs).map pD)) := by
      rw [← sortD_pairs]
      simp [biW, sortOk_pairs fs (by omega)]
    have tp : ∀ xs : List D, biW .tuple [.list xs] = some (.d (.tuple xs)) := fun _ => rfl
    have st2 : evSs (getL T28) (.cons (.ret (.ife (.cmp .ne (.var 2) (.lst .nil)) (.bi .tuple (.cons (.bi .sorted (.cons (.var 2) .nil)) .nil)) (.tup (.cons (.tup (.cons (.k (.int 1)) (.cons (.k (.int 2)) .nil))) .nil)))) .nil)
        [well a3 b3, .d (.int room), .ol (fs.map pD), .d (.int mm), y4, y5] = .rt (.d (.tuple ((sortP fs).map pD))) [well a3 b3, .d (.int room), .ol (fs.map pD), .d (.int mm), y4, y5] := by
      simp [c', so, tp]
    rw [st2, SK_rt]
    have l0 : 1 ≤ fs.length := by cases fs <;> simp at q ⊢
    refine ⟨sortP fs, a3, b3, ⟨by rw [sortP_len]; exact l0, by rw [sortP_len]; omega, ?_, sortP_asc h3⟩, by rw [sortP_len]; omega, rfl, rfl, h1, h2⟩
    intro p hp
    have g := h4 p ((sortP_mem fs p).mp hp)
    exact ⟨g.a, by have := g.b; omega, g.c, by have := g.d; omega, g.e⟩
end Pg
end
section
set_option Elab.async false
set_option linter.all false
set_option maxRecDepth 100000
namespace Pg
open PySem PySem.Spec PyProof.Rows L2 PySem.W FF
def tot (ks : List Kn) : Nat := (ks.map fun k => k.pairs.length).sum
theorem tot_snoc (ks : List Kn) (k : Kn) : tot (ks ++ [k]) = tot ks + k.pairs.length := by simp [tot]
abbrev B31 : Ss := (.cons (.if_ (.cmp .gt (.var 2) (.k (.int 0))) (.cons (.asg (.nm 7) (.call 28 (.cons (.var 0) (.cons (.var 2) .nil))))
    (.cons (.asg (.nm 2) (.bin .sub (.var 2) (.bi .len (.cons (.var 7) .nil))))
    (.cons (.ex (.app 4 (.tup (.cons (.var 6) (.cons (.var 7) (.cons (.cmp .eq (.call 25 (.cons (.var 0) (.cons (.k (.int 3)) .nil))) (.k (.int 0))) .nil))))))
    .nil))) .nil)
    .nil)
theorem f31_loop (R : Int) (hR : R ≤ 6) (H N G : W) : ∀ (ns : List Str) (a b : Int) (ks : List Kn) (rm : Int) (x6 x7 : W), 0 ≤ a → 0 ≤ b → 0 ≤ rm → rm = R - (tot ks : Int) → (∀ k ∈ ks, WP k.pairs) → ks.length + ns.length ≤ 1000 →
    SK (forDo (getL T29) (.nm 6) B31 (ns.map .str) [well a b, H, .d (.int rm), N, .ol (ks.map knD), G, x6, x7])
      (fun ρ => ∃ (a b : Int) (ks' : List Kn) (rm' : Int) (y6 y7 : W) (j : Nat), 0 ≤ a ∧ 0 ≤ b ∧ (tot ks' : Int) ≤ R ∧ (∀ k ∈ ks', WP k.pairs) ∧ ks'.map (·.name) = ks.map (·.name) ++ ns.take j ∧ (0 < rm → ns ≠ [] → 0 < j) ∧ (rm = 0 → j = 0) ∧ ρ = [well a b, H, .d (.int rm'), N, .ol (ks'.map knD), G, y6, y7])
      (fun _ _ => False)
  | [], a, b, ks, rm, x6, x7, ha, hb, h0, hr, hw, hl => ⟨a, b, ks, rm, x6, x7, 0, ha, hb, by omega, hw, by simp, by simp, by simp, rfl⟩
  | n :: ns, a, b, ks, rm, x6, x7, ha, hb, h0, hr, hw, hl => by
    simp only [List.length_cons] at hl
    rw [List.map_cons, forDo_cons, SK_seq]
    by_cases hp : 0 < rm
    · obtain ⟨_, _, e1, ps, a1, b1, wp, pl, rfl, rfl, a10, b10⟩ := (f30 (a := a) (b := b) (room := rm) ha hb (by omega) (by omega)).get
      obtain ⟨_, _, e2, v, a2, b2, rfl, rfl, v0, v1, a20, b20⟩ := (f27 a1 b1 3 a10 b10 (by decide) (by decide)).get
      have t30 : getL T29 28 = F28 := rfl
      have t27 : getL T29 25 = F25 := rfl
      have s3 : sizeLine ≥ 3 := by decide
      have sz : ks.length < sizeLine := by have := sx; omega
      have ln : biW .len [.tuple (ps.map pD)] = some (.d (.int ps.length)) := by simp [biW]
      have st : ((asgT (getL T29) (.nm 6) (.d (.str n)) [well a b, H, .d (.int rm), N, .ol (ks.map knD), G, x6, x7]).to fun _ ρ => evSs (getL T29) B31 ρ) =
          .nx [well a2 b2, H, .d (.int (rm - ps.length)), N, .ol (ks.map knD ++ [knD ⟨n, ps, decide (v = 0)⟩]), G, .d (.str n), .d (.tuple (ps.map pD))] := by
        simp [hp, t30, t27, doCall, putOuts, e1, e2, s3, sz, ln, eq_int, knD]
      rw [st, SK_nx]
      have e3 : ks.map knD ++ [knD ⟨n, ps, decide (v = 0)⟩] = (ks ++ [(⟨n, ps, decide (v = 0)⟩ : Kn)]).map knD := by simp
      rw [e3]
      refine (f31_loop R hR H N G ns a2 b2 (ks ++ [⟨n, ps, decide (v = 0)⟩]) (rm - ps.length) _ _ a20 b20 (by omega) (by rw [tot_snoc]; simp only; omega) ?_ (by simp; omega)).imp ?_ (fun _ _ h => h)
      · intro k hk
        rcases List.mem_append.mp hk with hk | hk
        · exact hw k hk
        · simp at hk; subst hk; exact wp
      · rintro ρ ⟨a, b, ks', rm', y6, y7, j, h1, h2, h3, h4, h5, h6, h7, h8⟩
        exact ⟨a, b, ks', rm', y6, y7, j + 1, h1, h2, h3, h4, by simp [h5], by omega, by omega, h8⟩
    · have hz : rm = 0 := by omega
      have st : ((asgT (getL T29) (.nm 6) (.d (.str n)) [well a b, H, .d (.int rm), N, .ol (ks.map knD), G, x6, x7]).to fun _ ρ => evSs (getL T29) B31 ρ) =
          .nx [well a b, H, .d (.int rm), N, .ol (ks.map knD), G, .d (.str n), x7] := by
        simp [hp]
      rw [st, SK_nx]
      refine (f31_loop R hR H N G ns a b ks rm _ _ ha hb h0 hr hw (by omega)).imp ?_ (fun _ _ h => h)
      rintro ρ ⟨a, b, ks', rm', y6, y7, j, h1, h2, h3, h4, h5, h6, h7, h8⟩
      have j0 := h7 hz
      subst j0
      exact ⟨a, b, ks', rm', y6, y7, 0, h1, h2, h3, h4, by simpa using h5, by omega, by omega, h8⟩
theorem menu_take {ns : List Str} (h : ns ∈ menu4) : ∀ n, 1 ≤ n → ns.take n ∈ menus
  | 0, h => by omega
  | 1, _ => by
    simp only [menu4, List.mem_cons, List.not_mem_nil, or_false] at h
    rcases h with h | h | h | h <;> subst h <;> decide
  | 2, _ => by
    simp only [menu4, List.mem_cons, List.not_mem_nil, or_false] at h
    rcases h with h | h | h | h <;> subst h <;> decide
  | n + 3, _ => by
    simp only [menu4, List.mem_cons, List.not_mem_nil, or_false] at h
    have : ∀ n : Nat, ∀ a b c : Str, [a, b, c].take (n + 3) = [a, b, c] := by intro n a b c; simp
    rcases h with h | h | h | h <;> subst h <;> rw [this] <;> decide
/-- _law_book -/
theorem f31 {a b hi R : Int} (ha : 0 ≤ a) (hb : 0 ≤ b) (g2 : 2 ≤ hi) (g6 : hi ≤ 6) (r1 : 1 ≤ R) (r6 : R ≤ 6) :
    CK (F29 [well a b, .d (.int hi), .d (.int R)]) fun w o => ∃ (bk : Bk) (a' b' : Int), WF bk ∧ w = .d (bkD bk) ∧ o = [well a' b', .d (.int hi), .d (.int R)] ∧ 0 ≤ a' ∧ 0 ≤ b' := by
  obtain ⟨_, _, e1, ns, a1, b1, hns, rfl, rfl, a10, b10⟩ := (f29 (a := a) (b := b) ha hb).get
  obtain ⟨_, _, e2, v2, a2, b2, rfl, rfl, v20, v21, a20, b20⟩ := (f27 a1 b1 (hi - 1) a10 b10 (by omega) (by omega)).get
  obtain ⟨_, _, e3, v3, a3, b3, rfl, rfl, v30, v31, a30, b30⟩ := (f27 a2 b2 3 a20 b20 (by decide) (by decide)).get
  have t29 : getL T29 27 = F27 := rfl
  have t28 : getL T29 26 = F26 := rfl
  have t27 : getL T29 25 = F25 := rfl
  have s1 : sizeLine ≥ 6 := by decide
  have s4 : sizeLine ≥ 4 := by decide
  have sl : slcW (.list (ns.map .str)) none (some (1 + v3)) = some (.ol ((ns.take (1 + v3).toNat).map .str)) := by
    have : (1 + v3) = (((1 + v3).toNat : Nat) : Int) := by omega
    rw [this]
    simp only [slcW, cut_to, List.map_take, Int.toNat_natCast]
  refine CK_fn rfl rfl ?_
  have st : evSs (getL T29) fn29.body ([well a b, .d (.int hi), .d (.int R)] ++ List.replicate (fn29.slots - fn29.n) .un) =
      (forDo (getL T29) (.nm 6) B31 ((ns.take (1 + v3).toNat).map .str) [well a3 b3, .d (.int hi), .d (.int R), .d (.list (ns.map .str)), .ol [], .d (.int (2 + v2)), .un, .un]).seq fun ρ => evSs (getL T29)
        (.cons (.ret (.tup (.cons (.var 5) (.cons (.call 26 (.cons (.var 0) (.cons (.lst (.cons (.k (.int 0)) (.cons (.k (.int 1)) (.cons (.k (.int 2)) (.cons (.k (.int 2)) (.cons (.k (.int 3)) (.cons (.k (.int 4)) .nil))))))) .nil))) (.cons (.cmp .eq (.call 25 (.cons (.var 0) (.cons (.k (.int 3)) .nil))) (.k (.int 0))) (.cons (.bi .tuple (.cons (.var 4) .nil)) .nil)))))) .nil) ρ := by
    simp [fn29, t29, t28, t27, doCall, putOuts, e1, e2, e3, setAll, sl, -List.map_take]
  rw [st, SK_seq]
  refine (f31_loop R r6 (.d (.int hi)) (.d (.list (ns.map .str))) (.d (.int (2 + v2))) (ns.take (1 + v3).toNat) a3 b3 [] R .un .un a30 b30 (by omega) (by simp [tot]) (by simp) ?_).imp ?_ (fun _ _ h => h.elim)
  · have : (ns.take (1 + v3).toNat).length ≤ (1 + v3).toNat := List.length_take_le _ _
    simp only [List.length_nil, Nat.zero_add]
    omega
  rintro ρ ⟨a4, b4, ks, rm, y6, y7, j, h1, h2, h3, h4, h5, h6, h7, rfl⟩
  obtain ⟨_, _, e5, x, a5, b5, m, rfl, rfl, a50, b50⟩ := (f28 (a := a4) (b := b4) (w1 := .d (.list [.int 0, .int 1, .int 2, .int 2, .int 3, .int 4])) h1 h2 (.inl rfl) (by decide) (by decide)).get
  obtain ⟨lt, rfl, l0, l4⟩ : ∃ n : Int, x = .int n ∧ 0 ≤ n ∧ n ≤ 4 := by
    simp only [List.mem_cons, List.not_mem_nil, or_false] at m
    rcases m with rfl | rfl | rfl | rfl | rfl | rfl <;> exact ⟨_, rfl, by decide, by decide⟩
  obtain ⟨_, _, e6, v6, a6, b6, rfl, rfl, v60, v61, a60, b60⟩ := (f27 a5 b5 3 a50 b50 (by decide) (by decide)).get
  have tp : ∀ xs : List D, biW .tuple [.list xs] = some (.d (.tuple xs)) := fun _ => rfl
  have st2 : evSs (getL T29) (.cons (.ret (.tup (.cons (.var 5) (.cons (.call 26 (.cons (.var 0) (.cons (.lst (.cons (.k (.int 0)) (.cons (.k (.int 1)) (.cons (.k (.int 2)) (.cons (.k (.int 2)) (.cons (.k (.int 3)) (.cons (.k (.int 4)) .nil))))))) .nil))) (.cons (.cmp .eq (.call 25 (.cons (.var 0) (.cons (.k (.int 3)) .nil))) (.k (.int 0))) (.cons (.bi .tuple (.cons (.var 4) .nil)) .nil)))))) .nil)
      [well a4 b4, .d (.int hi), .d (.int rm), .d (.list (ns.map .str)), .ol (ks.map knD), .d (.int (2 + v2)), y6, y7] =
      .rt (.d (bkD ⟨2 + v2, lt, decide (v6 = 0), ks⟩)) [well a6 b6, .d (.int hi), .d (.int rm), .d (.list (ns.map .str)), .ol (ks.map knD), .d (.int (2 + v2)), y6, y7] := by
    simp [t28, t27, doCall, putOuts, e5, e6, s1, s4, eq_int, tp, bkD]
  rw [st2, SK_rt]
  refine ⟨⟨2 + v2, lt, decide (v6 = 0), ks⟩, a6, b6, ⟨by simp only; omega, by simp only; omega, l0, l4, ?_, ?_, ?_⟩, rfl, rfl, a60, b60⟩
  · simp only at h5 ⊢
    have n3 : ns.length = 3 := by
      simp only [menu4, List.mem_cons, List.not_mem_nil, or_false] at hns
      rcases hns with h | h | h | h <;> subst h <;> rfl
    have j0 := h6 (by omega) (by
      intro q
      have := congrArg List.length q
      simp only [List.length_take, n3, List.length_nil] at this
      omega)
    rw [h5, List.map_nil, List.nil_append, List.take_take]
    exact menu_take hns _ (by omega)
  · intro k hk
    have w := h4 k hk
    exact ⟨w.l1, w.l3, w.pr, w.asc⟩
  · show tot ks ≤ 6
    omega
end Pg
end
section
set_option Elab.async false
set_option linter.all false
set_option maxRecDepth 100000
namespace Pg
open PySem PySem.Spec PyProof.Rows L2 PySem.W FF
theorem cutI_to {xs : List D} {k : Int} (h : 0 ≤ k) : FF.cutD xs none (some k) = xs.take k.toNat := by
  have : k = ((k.toNat : Nat) : Int) := by omega
  rw [this, cut_to, Int.toNat_natCast]
theorem cutI_from {xs : List D} {k : Int} (h : 0 ≤ k) : FF.cutD xs (some k) none = xs.drop k.toNat := by
  have : k = ((k.toNat : Nat) : Int) := by omega
  rw [this, cut_from, Int.toNat_natCast]
def flipK (k : Kn) : Kn := ⟨k.name, k.pairs, !k.level⟩
def flipAt (ks : List Kn) (i : Nat) : List Kn := ks.take i ++ ((ks[i]?).map flipK).toList ++ ks.drop (i + 1)
theorem flip_same (ks : List Kn) (i : Nat) : (flipAt ks i).map (fun k => (k.name, k.pairs)) = ks.map (fun k => (k.name, k.pairs)) := by
  induction ks generalizing i with
  | nil => simp [flipAt]
  | cons k ks ih =>
    cases i with
    | zero => simp [flipAt, flipK]
    | succ i =>
      have := ih i
      simp [flipAt] at this ⊢
      exact this
theorem len_tuple (xs : List D) : biW .len [.tuple xs] = some (.d (.int xs.length)) := rfl
end Pg
end
section
set_option Elab.async false
set_option linter.all false
set_option maxRecDepth 100000
namespace Pg
open PySem PySem.Spec PyProof.Rows L2 PySem.W FF
/-- _law_all_parts -/
theorem f33_lc (Γ : Nat → FF.FunD) (B F n pl lv : W) (nm : Str) (ps : List (Int × Int)) (hl : ps.length ≤ 1000) :
    lcDo Γ [5] (.nm 5) .nil (.bin .add (.tup (.cons (.var 2) .nil)) (.var 5)) (ps.map pD) [] [B, F, .d (.str nm), pl, lv, .un]
      = .ok (ps.map fun p => ptD ⟨nm, p.1, p.2⟩) [B, F, .d (.str nm), pl, lv, .un] := by
  have s1 : sizeLine ≥ 1 := by decide
  have ad : ∀ x y z : D, binW .add (.tuple [x]) (.tuple [y, z]) = some (.d (.tuple [x, y, z])) := fun _ _ _ => rfl
  have := lcDo_map Γ (own := [5]) (t := .nm 5) (c := .nil) (e := .bin .add (.tup (.cons (.var 2) .nil)) (.var 5))
    (f := fun x => match x with | .tuple [a, b] => some (.tuple [.str nm, a, b]) | _ => none)
    (ρ := [B, F, .d (.str nm), pl, lv, .un]) (xs := ps.map pD) (by
      intro x hx
      obtain ⟨p, _, rfl⟩ := List.mem_map.mp hx
      exact ⟨[B, F, .d (.str nm), pl, lv, .d (pD p)], by simp [lcTurn, pD, s1, ad], by simp⟩) [] (by have := sx; simp; omega)
  rw [this]
  simp [List.filterMap_map, Function.comp_def, pD, ptD]
theorem f33_loop (Γ : Nat → FF.FunD) (B : D) : ∀ (ks : List Kn) (acc : List D) (s2 s3 s4 : W), (∀ k ∈ ks, k.pairs.length ≤ 1000) → acc.length + (partsOf ks).length ≤ sizeLine →
    ∃ s2' s3' s4', forDo Γ (.tp (.cons (.nm 2) (.cons (.nm 3) (.cons (.nm 4) .nil)))) (.cons (.asg (.nm 1) (.bin .add (.var 1) (.lc [5] (.nm 5) (.lk 3) .nil (.bin .add (.tup (.cons (.var 2) .nil)) (.var 5))))) .nil) (ks.map knD) [.d B, .ol acc, s2, s3, s4, .un]
      = .nx [.d B, .ol (acc ++ (partsOf ks).map ptD), s2', s3', s4', .un]
  | [], acc, s2, s3, s4, _, _ => ⟨s2, s3, s4, by simp [forDo_nil, partsOf]⟩
  | k :: ks, acc, s2, s3, s4, hk, hl => by
    have e := f33_lc Γ (.d B) (.ol acc) (.d (.str k.name)) (.d (.tuple (k.pairs.map pD))) (.d (.bool k.level)) k.name k.pairs (hk k (.head _))
    have hl' : acc.length + k.pairs.length + (partsOf ks).length ≤ sizeLine := by
      simp [partsOf, partsK] at hl ⊢; omega
    obtain ⟨a, b, c, h⟩ := f33_loop Γ B ks (acc ++ k.pairs.map fun p => ptD ⟨k.name, p.1, p.2⟩) (.d (.str k.name)) (.d (.tuple (k.pairs.map pD))) (.d (.bool k.level)) (fun k' m => hk k' (.tail _ m)) (by simp; omega)
    refine ⟨a, b, c, ?_⟩
    have e2 : (partsOf (k :: ks)).map ptD = (k.pairs.map fun p => ptD ⟨k.name, p.1, p.2⟩) ++ (partsOf ks).map ptD := by
      simp [partsOf, partsK, Function.comp_def]
    rw [e2, ← List.append_assoc, ← h]
    simp only [List.map_cons, forDo_cons]
    have ad : binW .add (.list acc) (.list (k.pairs.map fun p => ptD ⟨k.name, p.1, p.2⟩)) = some (.ol (acc ++ k.pairs.map fun p => ptD ⟨k.name, p.1, p.2⟩)) := by
      have : acc.length + (k.pairs.map fun p => ptD ⟨k.name, p.1, p.2⟩).length ≤ sizeLine := by simp; omega
      simp only [binW, this, if_true]
    generalize (k.pairs.map fun p => ptD ⟨k.name, p.1, p.2⟩) = L at e ad ⊢
    simp [knD, tsLen, lockW, freeW, e, ad]
theorem f33 {b : Bk} (w : WF b) : F30 [.d (bkD b)] = .ok (.ol ((partsOf b.ks).map ptD)) [.d (bkD b)] := by
  obtain ⟨x, y, z, e⟩ := f33_loop (getL T30) (bkD b) b.ks [] .un .un .un w.pl (by have := w.partsLen; have := sx; simp; omega)
  have b3 : idxD (bkD b) (.int 3) = some (.tuple (b.ks.map knD)) := idx3 _ _ _ _ _
  simp at e
  simp [F30, fn30, evFn, b3, e]
theorem WF.parts_ne {b : Bk} (w : WF b) : 1 ≤ (partsOf b.ks).length := by
  have hl := w.len
  cases h : b.ks with
  | nil => simp [h] at hl
  | cons k ks =>
    have := (w.k k (by rw [h]; exact .head _)).l1
    simp [partsOf, partsK]
    omega
theorem OK_turn {t : D → Sl → O Unit} {c : Sl → O Bool} {e : Sl → O D} {x : D} {ρ : Sl} {Q : Option D → Sl → Prop} (h : OK (t x ρ) fun _ ρ => OK (c ρ) fun b ρ => if b then OK (e ρ) (fun y ρ => Q (some y) ρ) else Q none ρ) : OK (lcTurn t c e x ρ) Q := by
  unfold lcTurn
  cases h1 : t x ρ with
  | ok u ρ1 =>
    rw [h1] at h
    simp only [OK] at h
    cases h2 : c ρ1 with
    | ok b ρ2 =>
      rw [h2] at h
      simp only [OK] at h
      cases b with
      | true =>
        simp only [if_true] at h
        cases h3 : e ρ2 with
        | ok y ρ3 => rw [h3] at h; simpa [OK, h2, h3] using h
        | ex c ρ => rw [h3] at h; exact h.elim
        | bad => rw [h3] at h; exact h.elim
      | false => simpa [OK, h2] using h
    | ex c ρ => rw [h2] at h; exact h.elim
    | bad => rw [h2] at h; exact h.elim
  | ex c ρ => rw [h1] at h; exact h.elim
  | bad => rw [h1] at h; exact h.elim
/-- _law_text -/
theorem f34 {a b m : Int} {bk : Bk} (w : WF bk) (ha : 0 ≤ a) (hb : 0 ≤ b) (h0 : 0 ≤ m) (hm : m ≤ 32000) :
    CK (F31 [well a b, .d (bkD bk), .d (.int m)]) fun v o => ∃ (u : List Pt) (a' b' : Int), (∀ p ∈ u, p ∈ partsOf bk.ks) ∧ (u.length : Int) ≤ m ∧ v = .d (.tuple (u.map ptD)) ∧ o = [well a' b', .d (bkD bk), .d (.int m)] ∧ 0 ≤ a' ∧ 0 ≤ b' := by
  have pl := w.partsLen
  have p1 := w.parts_ne
  obtain ⟨_, _, e1, x, a1, b1, mx, rfl, rfl, a10, b10⟩ := (f28 (a := a) (b := b) (w1 := .ol ((partsOf bk.ks).map ptD)) ha hb (.inr rfl) (by simpa using p1) (by simp; omega)).get
  obtain ⟨of, hof, rfl⟩ := List.mem_map.mp mx
  obtain ⟨_, _, e2, v, a2, b2, rfl, rfl, v0, v1, a20, b20⟩ := (f27 a1 b1 (m + 1) a10 b10 (by omega) (by omega)).get
  have t33 : getL T31 30 = F30 := rfl
  have t28 : getL T31 26 = F26 := rfl
  have t27 : getL T31 25 = F25 := rfl
  have e33 := f33 w
  have s2 : sizeLine ≥ 2 := by decide
  have rk : rangeOk 0 v = true := by simp [rangeOk]; omega
  have rl : (rangeD 0 v).length = v.toNat := by simp [rangeD]
  have tp : ∀ xs : List D, biW .tuple [.list xs] = some (.d (.tuple xs)) := fun _ => rfl
  have sz := sx
  have ad : binW .add (.list ((partsOf bk.ks).map ptD)) (.list [ptD of, ptD of]) = some (.ol ((partsOf bk.ks).map ptD ++ [ptD of, ptD of])) := by
    have : ((partsOf bk.ks).map ptD).length + [ptD of, ptD of].length ≤ sizeLine := by simp; omega
    simp only [binW, this, if_true]
  have loop := OK_lc (getL T31) (own := [5]) (t := .nm 5) (c := .nil) (e := .call 26 (.cons (.var 0) (.cons (.bin .add (.var 3) (.lst (.cons (.var 4) (.cons (.var 4) .nil)))) .nil)))
    (fun xs acc ρ => ∃ (a b : Int) (u : List Pt), 0 ≤ a ∧ 0 ≤ b ∧ acc = u.map ptD ∧ (∀ p ∈ u, p ∈ partsOf bk.ks) ∧ u.length + xs.length ≤ v.toNat ∧ ρ = [well a b, .d (bkD bk), .d (.int m), .ol ((partsOf bk.ks).map ptD), .d (ptD of), .un])
    (Q := fun acc ρ => ∃ (a b : Int) (u : List Pt), 0 ≤ a ∧ 0 ≤ b ∧ acc = u.map ptD ∧ (∀ p ∈ u, p ∈ partsOf bk.ks) ∧ u.length ≤ v.toNat ∧ ρ = [well a b, .d (bkD bk), .d (.int m), .ol ((partsOf bk.ks).map ptD), .d (ptD of), .un])
    (by
      rintro x xs acc ρ ⟨a, b, u, ha, hb, rfl, hu, hl, rfl⟩
      obtain ⟨_, _, e3, y, a3, b3, my, rfl, rfl, a30, b30⟩ := (f28 (a := a) (b := b) (w1 := .d (.list ((partsOf bk.ks).map ptD ++ [ptD of, ptD of]))) ha hb (.inl rfl) (by simp) (by simp; omega)).get
      obtain ⟨p, hp, rfl⟩ : ∃ p, p ∈ partsOf bk.ks ∧ y = ptD p := by
        rcases List.mem_append.mp my with my | my
        · obtain ⟨p, hp, rfl⟩ := List.mem_map.mp my
          exact ⟨p, hp, rfl⟩
        · simp at my; exact ⟨of, hof, my⟩
      apply OK_turn
      simp only [List.length_cons] at hl
      have st : dat (evW (getL T31) (.call 26 (.cons (.var 0) (.cons (.bin .add (.var 3) (.lst (.cons (.var 4) (.cons (.var 4) .nil)))) .nil))) [well a b, .d (bkD bk), .d (.int m), .ol ((partsOf bk.ks).map ptD), .d (ptD of), .d x]) =
          .ok (ptD p) [well a3 b3, .d (bkD bk), .d (.int m), .ol ((partsOf bk.ks).map ptD), .d (ptD of), .d x] := by
        generalize (partsOf bk.ks).map ptD = L at ad e3
        simp [t28, doCall, putOuts, s2, ad, e3]
      have st0 : asgT (getL T31) (.nm 5) (.d x) [well a b, .d (bkD bk), .d (.int m), .ol ((partsOf bk.ks).map ptD), .d (ptD of), .un] = .ok () [well a b, .d (bkD bk), .d (.int m), .ol ((partsOf bk.ks).map ptD), .d (ptD of), .d x] := by simp
      rw [st0, OK_ok, evCs_nil, OK_ok]
      simp only [if_true]
      rw [st, OK_ok]
      refine ⟨by simp; omega, a3, b3, u ++ [p], a30, b30, by simp, ?_, by simp; omega, by simp⟩
      intro q hq
      rcases List.mem_append.mp hq with hq | hq
      · exact hu q hq
      · simp at hq; subst hq; exact hp)
    (by
      rintro acc ρ ⟨a, b, u, ha, hb, h1, h2, h3, h4⟩
      exact ⟨a, b, u, ha, hb, h1, h2, by simpa using h3, h4⟩)
    (rangeD 0 v) [] [well a2 b2, .d (bkD bk), .d (.int m), .ol ((partsOf bk.ks).map ptD), .d (ptD of), .un] ⟨a2, b2, [], a20, b20, rfl, by simp, by simp [rl], rfl⟩
  obtain ⟨acc, ρ', el, a5, b5, u, a50, b50, rfl, hu, hul, rfl⟩ : ∃ acc ρ', lcDo (getL T31) [5] (.nm 5) .nil (.call 26 (.cons (.var 0) (.cons (.bin .add (.var 3) (.lst (.cons (.var 4) (.cons (.var 4) .nil)))) .nil))) (rangeD 0 v) [] [well a2 b2, .d (bkD bk), .d (.int m), .ol ((partsOf bk.ks).map ptD), .d (ptD of), .un] = .ok acc ρ' ∧
      ∃ (a b : Int) (u : List Pt), 0 ≤ a ∧ 0 ≤ b ∧ acc = u.map ptD ∧ (∀ p ∈ u, p ∈ partsOf bk.ks) ∧ u.length ≤ v.toNat ∧ ρ' = [well a b, .d (bkD bk), .d (.int m), .ol ((partsOf bk.ks).map ptD), .d (ptD of), .un] := by
    revert loop
    generalize lcDo (getL T31) [5] (.nm 5) .nil (.call 26 (.cons (.var 0) (.cons (.bin .add (.var 3) (.lst (.cons (.var 4) (.cons (.var 4) .nil)))) .nil))) (rangeD 0 v) [] [well a2 b2, .d (bkD bk), .d (.int m), .ol ((partsOf bk.ks).map ptD), .d (ptD of), .un] = r
    intro loop
    cases r with
    | ok acc ρ' => exact ⟨acc, ρ', rfl, loop⟩
    | ex c ρ => exact loop.elim
    | bad => exact loop.elim
  refine CK.of (w := .d (.tuple (u.map ptD))) (o := [well a5 b5, .d (bkD bk), .d (.int m)]) ?_ ⟨u, a5, b5, hu, by omega, rfl, rfl, a50, b50⟩
  generalize (partsOf bk.ks).map ptD = L at e33 e1 el
  generalize u.map ptD = U at el
  simp [F31, fn31, evFn, t33, t28, t27, doCall, putOuts, e33, e1, e2, rk, el, tp]
end Pg
end
section
set_option Elab.async false
set_option linter.all false
set_option maxRecDepth 100000
namespace Pg
open PySem PySem.Spec PyProof.Rows L2 PySem.W FF
theorem pow_int (i : Int) (n : Nat) (h : n ≤ 1000) (h' : i.natAbs < 2 ^ 60) : binW .pow (.int i) (.int (n : Int)) = some (.d (.int (i ^ n))) := by
  have : (0 : Int) ≤ n ∧ (n : Int) ≤ 1000 ∧ i.natAbs < 2 ^ 60 := ⟨by omega, by omega, h'⟩
  simp only [binW]
  rw [if_pos this]
  simp
theorem big : ∃ P1 P2 P3 P4 Q1 Q2 M : Int, binW .pow (.int 10) (.int 59) = some (.d (.int P1)) ∧ binW .pow (.int 10) (.int 60) = some (.d (.int P2)) ∧ binW .pow (.int 10) (.int 61) = some (.d (.int P3)) ∧ binW .pow (.int 10) (.int 48) = some (.d (.int P4)) ∧
    binW .mul (.int P1) (.int P2) = some (.d (.int Q1)) ∧ binW .mul (.int Q1) (.int P3) = some (.d (.int Q2)) ∧ binW .mul (.int Q2) (.int P4) = some (.d (.int M)) ∧ 0 < M :=
  ⟨10 ^ 59, 10 ^ 60, 10 ^ 61, 10 ^ 48, 10 ^ 59 * 10 ^ 60, 10 ^ 59 * 10 ^ 60 * 10 ^ 61, 10 ^ 59 * 10 ^ 60 * 10 ^ 61 * 10 ^ 48, pow_int 10 59 (by decide) (by decide), pow_int 10 60 (by decide) (by decide), pow_int 10 61 (by decide) (by decide), pow_int 10 48 (by decide) (by decide),
    FF.mul_int (by decide +kernel), FF.mul_int (by decide +kernel), FF.mul_int (by decide +kernel), by decide +kernel⟩
theorem int_bool (b : Bool) : biW .int [.bool b] = some (.d (.int (if b then 1 else 0))) := rfl
abbrev B26 : Ss := (.cons (.asg (.nm 2) (.bin .add (.var 2) (.bin .mul (.bin .mod (.bi .int (.cons (.bi .abs (.cons (.var 3) .nil)) .nil)) (.k (.int 65537))) (.bi .int (.cons (.cmp .lt (.var 2) (.bin .pow (.k (.int 10)) (.k (.int 18)))) .nil)))))
    .nil)
theorem f26_loop (Γ : Nat → FF.FunD) (S K : W) : ∀ (xs : List Int) (c : Int) (x3 : W), 0 ≤ c → SK (forDo Γ (.nm 3) B26 (xs.map .int) [S, K, .d (.int c), x3]) (fun ρ => ∃ (c : Int) (x3 : W), 0 ≤ c ∧ ρ = [S, K, .d (.int c), x3]) (fun _ _ => False)
  | [], c, x3, h => ⟨c, x3, h, rfl⟩
  | x :: xs, c, x3, h => by
    obtain ⟨P, hP⟩ : ∃ P : Int, binW .pow (.int 10) (.int 18) = some (.d (.int P)) := ⟨_, pow_int 10 18 (by decide) (by decide)⟩
    have m1 := fun i => modI i (j := 65537) (by decide)
    have m2 : ∀ i : Int, ∀ b : Bool, binW .mul (.int i) (.int (if b = true then 1 else 0)) = some (.d (.int (i * (if b = true then 1 else 0)))) := by
      intro i b
      cases b <;> exact mulR i (by decide) (by decide)
    have m3 : ∀ i : Int, 0 ≤ i % 65537 := fun i => Int.emod_nonneg i (by decide)
    rw [List.map_cons, forDo_cons, SK_seq]
    have st : ((asgT Γ (.nm 3) (.d (.int x)) [S, K, .d (.int c), x3]).to fun _ ρ => evSs Γ B26 ρ) =
        .nx [S, K, .d (.int (c + (if x < 0 then -x else x) % 65537 * (if decide (c < P) = true then 1 else 0))), .d (.int x)] := by
      have m2' := fun i => m2 i (decide (c < P))
      by_cases q : c < P
      · simp [q] at m2'
        simp [hP, int_int, int_bool, m1, q, m2']
      · simp [q] at m2'
        simp [hP, int_int, int_bool, m1, q, m2']
    rw [st, SK_nx]
    refine f26_loop Γ S K xs _ _ ?_
    have := m3 (if x < 0 then -x else x)
    generalize (if x < 0 then -x else x) % 65537 = y at *
    by_cases q : decide (c < P) = true
    · rw [if_pos q]; omega
    · rw [if_neg q]; omega
/-- _law_well -/
theorem f26 {ns : List Int} {k : Int} (k0 : 0 ≤ k) (k8 : k ≤ 100) (hn : ns.length ≤ 63) : CK (F24 [.d (scriptD ns), .d (.int k)]) fun w o => ∃ a b : Int, 0 ≤ a ∧ 0 ≤ b ∧ w = well a b ∧ o = [.d (scriptD ns), .d (.int k)] := by
  obtain ⟨P1, P2, P3, P4, Q1, Q2, M, h1, h2, h3, h4, h5, h6, h7, hM⟩ := big
  obtain ⟨P, hP⟩ : ∃ P : Int, binW .pow (.int 10) (.int 18) = some (.d (.int P)) := ⟨_, pow_int 10 18 (by decide) (by decide)⟩
  have l1 := mulL (i := 7919) (k + 1) (by decide) (by decide)
  have mm := fun i => modI i hM
  have ln : biW .len [scriptD ns] = some (.d (.int ns.length)) := by simp [scriptD, len_list]
  have sl : slcW (scriptD ns) (some (k + 1)) (some (k + 4)) = some (.ol (FF.cutD (ns.map .int) (some (k + 1)) (some (k + 4)))) := rfl
  have cut : ∃ ms : List Int, FF.cutD (ns.map .int) (some (k + 1)) (some (k + 4)) = ms.map .int := by
    simp only [FF.cutD, ← List.map_drop, ← List.map_take]
    exact ⟨_, rfl⟩
  obtain ⟨ms, cut⟩ := cut
  rw [cut] at sl
  refine CK_fn rfl rfl ?_
  have st : ∃ c x3, 0 ≤ c ∧ evSs (getL T24) fn24.body ([.d (scriptD ns), .d (.int k)] ++ List.replicate (fn24.slots - fn24.n) .un) =
      (forDo (getL T24) (.nm 3) B26 (ms.map .int) [.d (scriptD ns), .d (.int k), .d (.int c), x3]).seq fun ρ => evSs (getL T24)
        (.cons (.ret (.lst (.cons (.ife (.cmp .ge (.var 2) (.bin .pow (.k (.int 10)) (.k (.int 18)))) (.var 2) (.k (.int 0))) (.cons (.bin .add (.bin .mod (.bin .mul (.bi .int (.cons (.bin .add (.bin .mod (.var 2) (.k (.int 2147483587))) (.k (.int 31))) .nil)) (.bin .add (.var 1) (.k (.int 3)))) (.k (.int 2147483587))) (.k (.int 1))) .nil)))) .nil) ρ := by
    by_cases q : k < ns.length
    · have ix : idxD (scriptD ns) (.int k) = some (.int ns[k.toNat]) := by
        have hk : k = ((k.toNat : Nat) : Int) := by omega
        have q' := atI_nat (ns.map PyData.int) k.toNat (by simp; omega)
        rw [← hk] at q'
        simp only [scriptD, idxD, q']
        have : k.toNat < ns.length := by omega
        simp [this]
      generalize ns[k.toNat] = x at ix
      refine ⟨(if x < 0 then -x else x) % M, .un, Int.emod_nonneg _ (by omega), ?_⟩
      simp [fn24, l1, ln, q, ix, int_int, h1, h2, h3, h4, h5, h6, h7, mm, sl]
    · refine ⟨7919 * (k + 1), .un, by omega, ?_⟩
      simp [fn24, l1, ln, q, sl]
  obtain ⟨c, x3, hc, st⟩ := st
  rw [st, SK_seq]
  refine (f26_loop (getL T24) (.d (scriptD ns)) (.d (.int k)) ms c x3 hc).imp ?_ (fun _ _ h => h.elim)
  rintro ρ ⟨c, x3, hc, rfl⟩
  have m1 := fun i => modI i (j := 2147483587) (by decide)
  have m2 := fun i => mulR i (j := k + 3) (by omega) (by omega)
  have s2 : sizeLine ≥ 2 := by decide
  have st2 : evSs (getL T24) (.cons (.ret (.lst (.cons (.ife (.cmp .ge (.var 2) (.bin .pow (.k (.int 10)) (.k (.int 18)))) (.var 2) (.k (.int 0))) (.cons (.bin .add (.bin .mod (.bin .mul (.bi .int (.cons (.bin .add (.bin .mod (.var 2) (.k (.int 2147483587))) (.k (.int 31))) .nil)) (.bin .add (.var 1) (.k (.int 3)))) (.k (.int 2147483587))) (.k (.int 1))) .nil)))) .nil) [.d (scriptD ns), .d (.int k), .d (.int c), x3] =
      .rt (well (if P ≤ c then c else 0) ((c % 2147483587 + 31) * (k + 3) % 2147483587 + 1)) [.d (scriptD ns), .d (.int k), .d (.int c), x3] := by
    by_cases q : P ≤ c <;> simp [hP, q, m1, m2, int_int, s2]
  rw [st2, SK_rt]
  have := Int.emod_nonneg ((c % 2147483587 + 31) * (k + 3)) (show (2147483587 : Int) ≠ 0 by decide)
  exact ⟨_, _, by split <;> omega, by omega, rfl, rfl⟩
end Pg
end
section
set_option Elab.async false
set_option linter.all false
set_option maxRecDepth 100000
set_option maxHeartbeats 1000000
/-! TA: law's own laying (k03; from OC of k15) -/
namespace Pg
open PySem PySem.Spec PyProof.Rows L2 PySem.W FF
theorem stL_b {q : Int × Int} (hq : q ∈ stL) : -8 ≤ q.2 ∧ q.2 ≤ 8 := by
  simp only [stL, List.mem_flatMap, List.mem_range, List.mem_map] at hq
  obtain ⟨i, _, j, hj, rfl⟩ := hq
  constructor <;> (dsimp only; omega)
theorem laid_near {b : Bk} (w : WF b) {p : Pt} (h : p ∈ partsOf b.ks) (q : Int × Int) : -8 ≤ (laidOf b q.1 q.2 p (levelOf b.ks p)).2.2 - (laidOf b q.1 q.2 p (levelOf b.ks p)).2.1 ∧ (laidOf b q.1 q.2 p (levelOf b.ks p)).2.2 - (laidOf b q.1 q.2 p (levelOf b.ks p)).2.1 ≤ 8 := by
  have m := step_in w (standAt b q) (w.part h) (levelOf b.ks p)
  rw [(step_at w.h2 w.l0 q p (levelOf b.ks p)).2] at m
  exact stL_b m
theorem g29_loop {b : Bk} (w : WF b) (X : W) : ∀ (ps : List Pt) (q : Int × Int) (acc : List D) (s4 s5 : W), (∀ p ∈ ps, p ∈ partsOf b.ks) → -8 ≤ q.2 - q.1 → q.2 - q.1 ≤ 8 → acc.length + ps.length ≤ sizeLine →
    ∃ s4' s5', forDo (getL T34) (.nm 4) (.cons (.asg (.nm 5) (.call 32 (.cons (.var 0) (.cons (.var 3) (.cons (.var 4) .nil)))))
    (.cons (.ex (.app 2 (.var 5)))
    (.cons (.asg (.nm 3) (.tup (.cons (.bin .add (.idx (.var 5) (.k (.int 0))) (.idx (.var 4) (.k (.int 1)))) (.cons (.bin .add (.idx (.var 5) (.k (.int 1))) (.idx (.var 4) (.k (.int 2)))) .nil))))
    .nil))) (ps.map ptD) [.d (bkD b), X, .ol acc, .d (pD q), s4, s5]
      = .nx [.d (bkD b), X, .ol (acc ++ (layAll b ps q).1.map pD), .d (pD (layAll b ps q).2), s4', s5']
  | [], q, acc, s4, s5, _, _, _, _ => ⟨s4, s5, by simp [forDo_nil, layAll]⟩
  | p :: ps, q, acc, s4, s5, hp, q1, q2, hl => by
    have hp0 := hp p (.head _)
    obtain ⟨k, hk⟩ := Option.isSome_iff_exists.mp (part_kind hp0)
    have lv : levelOf b.ks p = k.level := by simp [levelOf, hk]
    have e := g25 b q.1 q.2 p k hk w.h2 w.h6 (by have := w.len; omega) ⟨by omega, by omega⟩
    rw [lawBegin_eq b _ _ p _ w.h2 w.h6 w.l0, ← lv] at e
    have nr := laid_near w hp0 q
    obtain ⟨x, y, h⟩ := g29_loop w X ps (laidOf b q.1 q.2 p (levelOf b.ks p)).2 (acc ++ [pD (laidOf b q.1 q.2 p (levelOf b.ks p)).1]) (.d (ptD p)) (.d (pD (laidOf b q.1 q.2 p (levelOf b.ks p)).1)) (fun p' m => hp p' (.tail _ m)) nr.1 nr.2 (by simp at hl ⊢; omega)
    refine ⟨x, y, ?_⟩
    have e2 : acc ++ (layAll b (p :: ps) q).1.map pD = (acc ++ [pD (laidOf b q.1 q.2 p (levelOf b.ks p)).1]) ++ (layAll b ps (laidOf b q.1 q.2 p (levelOf b.ks p)).2).1.map pD := by
      simp [layAll]
    have e3 : (layAll b (p :: ps) q).2 = (layAll b ps (laidOf b q.1 q.2 p (levelOf b.ks p)).2).2 := by simp [layAll]
    rw [e2, e3, ← h]
    simp only [List.map_cons, forDo_cons]
    have hl2 : acc.length < sizeLine := by simp at hl; omega
    have t26 : getL T34 32 = F32 := rfl
    have b0 : idxD (pD (begunAt b q.1 q.2 p (levelOf b.ks p))) (.int 0) = some (.int (begunAt b q.1 q.2 p (levelOf b.ks p)).1) := idx0 _ _
    have b1 : idxD (pD (begunAt b q.1 q.2 p (levelOf b.ks p))) (.int 1) = some (.int (begunAt b q.1 q.2 p (levelOf b.ks p)).2) := idx1 _ _ _
    have p1 : idxD (ptD p) (.int 1) = some (.int p.l) := idx1 _ _ _
    have p2 : idxD (ptD p) (.int 2) = some (.int p.r) := idx2 _ _ _ _
    have s2 : sizeLine ≥ 2 := by decide
    have l1 : (laidOf b q.1 q.2 p (levelOf b.ks p)).1 = begunAt b q.1 q.2 p (levelOf b.ks p) := rfl
    have l2 : pD (laidOf b q.1 q.2 p (levelOf b.ks p)).2 = .tuple [.int ((begunAt b q.1 q.2 p (levelOf b.ks p)).1 + p.l), .int ((begunAt b q.1 q.2 p (levelOf b.ks p)).2 + p.r)] := rfl
    rw [l1, l2]
    generalize begunAt b q.1 q.2 p (levelOf b.ks p) = G at *
    have e : F32 [.d (bkD b), .d (pD q), .d (ptD p)] = .ok (.d (pD G)) [.d (bkD b), .d (pD q), .d (ptD p)] := e
    clear h nr lv
    generalize bkD b = B at *
    generalize ptD p = Z at *
    generalize pD q = Q at *
    generalize pD G = GD at *
    simp [t26, doCall, putOuts, e, b0, b1, p1, p2, hl2, s2]
/-- _law_laid -/
theorem g29 {b : Bk} (w : WF b) (ps : List Pt) (hp : ∀ p ∈ ps, p ∈ partsOf b.ks) (hl : ps.length ≤ sizeLine) :
    F34 [.d (bkD b), .d (.tuple (ps.map ptD))] = .ok (.d (.tuple [.list ((layAll b ps (0, 0)).1.map pD), pD (layAll b ps (0, 0)).2])) [.d (bkD b), .d (.tuple (ps.map ptD))] := by
  obtain ⟨x, y, e⟩ := g29_loop w (.d (.tuple (ps.map ptD))) ps (0, 0) [] .un .un hp (by decide) (by decide) (by simpa using hl)
  have s2 : sizeLine ≥ 2 := by decide
  have s0 : sizeLine ≥ 0 := Nat.zero_le _
  have z : pD (0, 0) = .tuple [.int 0, .int 0] := rfl
  rw [z] at e
  simp at e
  simp [F34, fn34, evFn, lockW, freeW, setAll, e, SO.free, s2, s0]
theorem eqv_pairs : ∀ xs ys : List (Int × Int), PyData.eqvAll (xs.map pD) (ys.map pD) = decide (xs = ys)
  | [], [] => rfl
  | [], y :: ys => rfl
  | x :: xs, [] => rfl
  | x :: xs, y :: ys => by
    have e : PyData.eqvAll ((x :: xs).map pD) ((y :: ys).map pD) = (PyData.eqv (pD x) (pD y) && PyData.eqvAll (xs.map pD) (ys.map pD)) := rfl
    obtain ⟨a, b⟩ := x
    obtain ⟨c, d⟩ := y
    rw [e, eqv_pairs xs ys, eqv_pair]
    simp
theorem eq_begins (xs ys : List (Int × Int)) : cmpD .eq (.list (xs.map pD)) (.list (ys.map pD)) = some (decide (xs = ys)) := by
  have a := eqOk_list pD 5 (by decide) plain_pair depth_pD xs
  have b := eqOk_list pD 5 (by decide) plain_pair depth_pD ys
  have : PyData.eqv (.list (xs.map pD)) (.list (ys.map pD)) = PyData.eqvAll (xs.map pD) (ys.map pD) := rfl
  simp only [cmpD, a, b, Bool.and_self, if_true, this, eqv_pairs]
theorem ne_begins (xs ys : List (Int × Int)) : cmpD .ne (.list (xs.map pD)) (.list (ys.map pD)) = some (!decide (xs = ys)) := by
  have a := eqOk_list pD 5 (by decide) plain_pair depth_pD xs
  have b := eqOk_list pD 5 (by decide) plain_pair depth_pD ys
  have : PyData.eqv (.list (xs.map pD)) (.list (ys.map pD)) = PyData.eqvAll (xs.map pD) (ys.map pD) := rfl
  simp only [cmpD, a, b, Bool.and_self, if_true, this, eqv_pairs]
end Pg
end
section
set_option Elab.async false
set_option linter.all false
set_option maxRecDepth 100000
set_option maxHeartbeats 1000000
/-! TB: begins, spreads, blanks, broken (k03) -/
namespace Pg
open PySem PySem.Spec PyProof.Rows L2 PySem.W FF
theorem lay_loop (Γ : Nat → FF.FunD) (hΓ : Γ 15 = F15) (b : Bk) (h2 : 2 ≤ b.h) (h6 : b.h ≤ 6) (X : W) : ∀ (ps : List Pt) (q : Int × Int) (acc : List D) (s4 s5 : W), (∀ p ∈ ps, (fkind b.ks p.name).isSome) → acc.length + ps.length ≤ sizeLine →
    ∃ s4' s5', forDo Γ (.nm 4) (.cons (.asg (.tp (.cons (.nm 5) (.cons (.nm 3) .nil))) (.call 15 (.cons (.var 0) (.cons (.var 3) (.cons (.var 4) .nil))))) (.cons (.ex (.app 2 (.var 5))) .nil)) (ps.map ptD) [.d (bkD b), X, .ol acc, .d (pD q), s4, s5]
      = .nx [.d (bkD b), X, .ol (acc ++ (layAll b ps q).1.map pD), .d (pD (layAll b ps q).2), s4', s5']
  | [], q, acc, s4, s5, _, _ => ⟨s4, s5, by simp [forDo_nil, layAll]⟩
  | p :: ps, q, acc, s4, s5, hp, hl => by
    obtain ⟨k, hk⟩ := Option.isSome_iff_exists.mp (hp p (.head _))
    have lv : levelOf b.ks p = k.level := by simp [levelOf, hk]
    have e := f15 b q.1 q.2 p k hk h2 h6
    rw [← lv] at e
    obtain ⟨x, y, h⟩ := lay_loop Γ hΓ b h2 h6 X ps (laidOf b q.1 q.2 p (levelOf b.ks p)).2 (acc ++ [pD (laidOf b q.1 q.2 p (levelOf b.ks p)).1]) (.d (ptD p)) (.d (pD (laidOf b q.1 q.2 p (levelOf b.ks p)).1)) (fun p' m => hp p' (.tail _ m)) (by simp at hl ⊢; omega)
    refine ⟨x, y, ?_⟩
    have e2 : acc ++ (layAll b (p :: ps) q).1.map pD = (acc ++ [pD (laidOf b q.1 q.2 p (levelOf b.ks p)).1]) ++ (layAll b ps (laidOf b q.1 q.2 p (levelOf b.ks p)).2).1.map pD := by
      simp [layAll]
    have e3 : (layAll b (p :: ps) q).2 = (layAll b ps (laidOf b q.1 q.2 p (levelOf b.ks p)).2).2 := by simp [layAll]
    rw [e2, e3, ← h]
    simp only [List.map_cons, forDo_cons]
    have hl2 : acc.length < sizeLine := by simp at hl; omega
    simp [hΓ, doCall, putOuts, e, tsLen, hl2]
section
variable {b : Bk} (w : WF b) {ps : List Pt} (h : ∀ p ∈ ps, p ∈ partsOf b.ks) (hl : ps.length ≤ sizeLine)
abbrev txD (ps : List Pt) : D := .tuple (ps.map ptD)
include w h hl
/-- all_laid, whose list is handed out -/
theorem fOwn : F17 [.d (bkD b), .d (txD ps)] = .ok (.ol ((layAll b ps (0, 0)).1.map pD)) [.d (bkD b), .d (txD ps)] := by
  obtain ⟨x, y, e⟩ := lay_loop (getL T17) rfl b w.h2 w.h6 (.d (txD ps)) ps (0, 0) [] .un .un (fun p m => part_kind (h p m)) (by simpa using hl)
  have s2 : sizeLine ≥ 2 := by decide
  have z : pD (0, 0) = .tuple [.int 0, .int 0] := rfl
  rw [z] at e
  simp at e
  simp [F17, fn17, evFnO, evSsO, endO, lockW, freeW, setAll, e, SO.free, s2]
theorem fBegins : F20 [.d (bkD b), .d (txD ps)] = .ok (.ol ((layAll b ps (0, 0)).1.map pD)) [.d (bkD b), .d (txD ps)] := by
  have t6 : getL T20 6 = F6 := rfl
  have t10 : getL T20 10 = F10 := rfl
  have t17 : getL T20 17 = F17 := rfl
  simp [F20, fn20, evFn, t6, t10, t17, doCall, putOuts, f6 w, f10 w h hl, fOwn w h hl]
theorem fLaid : F16 [.d (bkD b), .d (txD ps)] = .ok (.d (.tuple [.list ((layAll b ps (0, 0)).1.map pD), pD (layAll b ps (0, 0)).2])) [.d (bkD b), .d (txD ps)] := f17 b w.h2 w.h6 ps (fun p m => part_kind (h p m)) hl
theorem fCount : F19 [.d (bkD b), .d (txD ps)] = .ok (.d (.int (spreadsTo b.h (layAll b ps (0, 0)).2.1 (layAll b ps (0, 0)).2.2))) [.d (bkD b), .d (txD ps)] := by
  have t14 : getL T19 14 = F14 := rfl
  have t16 : getL T19 16 = F16 := rfl
  have e := fLaid w h hl
  have e14 := f14 b.h (layAll b ps (0, 0)).2.1 (layAll b ps (0, 0)).2.2 w.h2 w.h6
  have b0 : idxD (bkD b) (.int 0) = some (.int b.h) := idx0 _ _
  have i1 : idxD (.tuple [.list ((layAll b ps (0, 0)).1.map pD), pD (layAll b ps (0, 0)).2]) (.int 1) = some (pD (layAll b ps (0, 0)).2) := idx1 _ _ _
  generalize bkD b = B at *
  generalize txD ps = T at *
  generalize (layAll b ps (0, 0)).1.map pD = L at *
  generalize pD (layAll b ps (0, 0)).2 = Q at *
  simp [F19, fn19, evFn, t14, t16, doCall, putOuts, e, e14, b0, i1]
theorem fSpreads : F21 [.d (bkD b), .d (txD ps)] = .ok (.d (.int (spreadsTo b.h (layAll b ps (0, 0)).2.1 (layAll b ps (0, 0)).2.2))) [.d (bkD b), .d (txD ps)] := by
  have t6 : getL T21 6 = F6 := rfl
  have t10 : getL T21 10 = F10 := rfl
  have t19 : getL T21 19 = F19 := rfl
  simp [F21, fn21, evFn, t6, t10, t19, doCall, putOuts, f6 w, f10 w h hl, fCount w h hl]
end
/-- the sum of a side's lines -/
theorem lc_side (Γ : Nat → FF.FunD) (ps : List Pt) (hl : ps.length ≤ sizeLine) (c : Int) (g : Pt → Int) (hg : ∀ p, idxD (ptD p) (.int c) = some (.int (g p))) (i : Nat) (ρ : Sl) (hi : ρ[i]? = some .un) (hn : i < ρ.length) :
    lcDo Γ [i] (.nm i) .nil (.idx (.var i) (.k (.int c))) (ps.map ptD) [] ρ = .ok ((ps.map g).map .int) ρ := by
  have e1 := lcDo_map Γ (own := [i]) (t := .nm i) (c := .nil) (e := .idx (.var i) (.k (.int c)))
    (f := fun x => idxD x (.int c)) (ρ := ρ) (xs := ps.map ptD) (by
      intro x hx
      obtain ⟨p, m, rfl⟩ := List.mem_map.mp hx
      refine ⟨ρ.set i (.d (ptD p)), ?_, ?_⟩
      · have g1 := hg p
        generalize ptD p = Z at *
        simp [lcTurn, hn, g1]
      · have : ρ.set i .un = ρ := by
          apply List.ext_getElem?
          intro j
          by_cases e : i = j
          · subst e; rw [List.getElem?_set_self hn, hi]
          · rw [List.getElem?_set_ne e]
        simp [this]) [] (by simpa using hl)
  rw [e1]
  simp [List.filterMap_map, Function.comp_def, hg]
section
variable {b : Bk} (w : WF b) {ps : List Pt} (h : ∀ p ∈ ps, p ∈ partsOf b.ks) (hl : ps.length ≤ sizeLine)
include w h hl
theorem fBlanks : F22 [.d (bkD b), .d (txD ps)] = .ok (.d (pD ((layAll b ps (0, 0)).2.1 - (ps.map (·.l)).sum, (layAll b ps (0, 0)).2.2 - (ps.map (·.r)).sum))) [.d (bkD b), .d (txD ps)] := by
  have t6 : getL T22 6 = F6 := rfl
  have t10 : getL T22 10 = F10 := rfl
  have t16 : getL T22 16 = F16 := rfl
  have e := fLaid w h hl
  have e6 := f6 w
  have e10 := f10 w h hl
  have e10 : F10 [.d (bkD b), .d (txD ps)] = .ok (.d .none) [.d (bkD b), .d (txD ps)] := e10
  have i1 : ∀ L, idxD (.tuple [L, pD (layAll b ps (0, 0)).2]) (.int 1) = some (pD (layAll b ps (0, 0)).2) := fun L => idx1 _ _ _
  have s2 : sizeLine ≥ 2 := by decide
  have l1 := fun ρ hi hn => lc_side (getL T22) ps hl 1 (·.l) (fun p => idx1 _ _ _) 4 ρ hi hn
  have l2 := fun ρ hi hn => lc_side (getL T22) ps hl 2 (·.r) (fun p => idx2 _ _ _ _) 4 ρ hi hn
  have sm := fun ns => sum_ints ns
  generalize (layAll b ps (0, 0)).2 = Q at *
  obtain ⟨x, y⟩ := Q
  generalize (layAll b ps (0, 0)).1.map pD = L at *
  have i2 := i1 (.list L)
  simp only [pD] at i1 i2 e ⊢
  generalize bkD b = B at *
  have l3 := l1 [.d B, .d (txD ps), .d (.int x), .d (.int y), .un] rfl (by simp)
  have l4 := l2 [.d B, .d (txD ps), .d (.int x), .d (.int y), .un] rfl (by simp)
  clear l1 l2
  simp only [txD] at *
  generalize ps.map (fun x => x.l) = nl at *
  generalize ps.map (fun x => x.r) = nr at *
  simp [F22, fn22, evFn, t6, t10, t16, doCall, putOuts, e6, e10, e, i2, tsLen, lockW, freeW, l3, l4, sm, s2]
end
end Pg
end
section
set_option Elab.async false
set_option linter.all false
set_option maxRecDepth 100000
set_option maxHeartbeats 1000000
/-! TC: broken (k03) -/
namespace Pg
open PySem PySem.Spec PyProof.Rows L2 PySem.W FF
def wI (i : Nat) (ws : List D) : List D := ws.map fun x => .tuple [.int i, x]
def brk (h : Int) : Nat → List (Int × Int) → List Pt → List D
  | i, q :: qs, p :: ps => wI i (wordsAt h q.1 q.2 p) ++ brk h (i + 1) qs ps
  | _, _, _ => []
theorem words_len (h l r : Int) (p : Pt) : (wordsAt h l r p).length ≤ 2 := by
  unfold wordsAt
  split
  · simp
  · split <;> simp
theorem brk_len (h : Int) : ∀ (qs : List (Int × Int)) (ps : List Pt) (i : Nat), (brk h i qs ps).length ≤ 2 * qs.length
  | [], _, _ => by simp [brk]
  | q :: qs, [], _ => by simp [brk]
  | q :: qs, p :: ps, i => by
    have a := words_len h q.1 q.2 p
    have c := brk_len h qs ps (i + 1)
    simp [brk, wI]
    omega
theorem lc_words (Γ : Nat → FF.FunD) (i : Nat) (xs : List D) (v c : Nat) (ρ : Sl) (hl : xs.length ≤ sizeLine) (hv : ρ[v]? = some (.d (.int i))) (hc : ρ[c]? = some .un) (hn : c < ρ.length) (ne : c ≠ v) :
    lcDo Γ [c] (.nm c) .nil (.tup (.cons (.var v) (.cons (.var c) .nil))) xs [] ρ = .ok (wI i xs) ρ := by
  have s2 : sizeLine ≥ 2 := by decide
  have e1 := lcDo_map Γ (own := [c]) (t := .nm c) (c := .nil) (e := .tup (.cons (.var v) (.cons (.var c) .nil)))
    (f := fun x => some (.tuple [.int i, x])) (ρ := ρ) (xs := xs) (by
      intro x hx
      refine ⟨ρ.set c (.d x), ?_, ?_⟩
      · have g1 : (ρ.set c (.d x))[v]? = some (.d (.int i)) := by rw [List.getElem?_set_ne ne]; exact hv
        have g2 : (ρ.set c (.d x))[c]? = some (.d x) := List.getElem?_set_self hn
        simp [lcTurn, hn, rdVar, g1, g2, s2]
      · have : ρ.set c .un = ρ := by
          apply List.ext_getElem?
          intro j
          by_cases e : c = j
          · subst e; rw [List.getElem?_set_self hn, hc]
          · rw [List.getElem?_set_ne e]
        simp [this]) [] (by simpa using hl)
  rw [e1]
  simp [wI]
abbrev B18 : Ss := (.cons (.ex (.mto .extend 2 (.cons (.lc [6] (.nm 6) (.it (.call 13 (.cons (.idx (.var 0) (.k (.int 0))) (.cons (.var 4) (.cons (.var 5) .nil))))) .nil (.tup (.cons (.var 3) (.cons (.var 6) .nil)))) .nil)))
    .nil)
abbrev T18g : T := (.tp (.cons (.nm 3) (.cons (.tp (.cons (.nm 4) (.cons (.nm 5) .nil))) .nil)))
theorem brk_loop {b : Bk} (w : WF b) (X : W) : ∀ (qs : List (Int × Int)) (ps : List Pt) (i : Nat) (acc : List D) (s3 s4 s5 : W), acc.length + 2 * qs.length ≤ sizeLine →
    ∃ s3' s4' s5', forDo (getL T18) T18g B18 (enumD i (List.zipWith (fun x y => .tuple [x, y]) (qs.map pD) (ps.map ptD))) [.d (bkD b), X, .ol acc, s3, s4, s5, .un]
      = .nx [.d (bkD b), X, .ol (acc ++ brk b.h i qs ps), s3', s4', s5', .un]
  | [], ps, i, acc, s3, s4, s5, _ => ⟨s3, s4, s5, by simp [forDo_nil, enumD, brk]⟩
  | q :: qs, [], i, acc, s3, s4, s5, _ => ⟨s3, s4, s5, by simp [forDo_nil, enumD, brk]⟩
  | q :: qs, p :: ps, i, acc, s3, s4, s5, hl => by
    have wl := words_len b.h q.1 q.2 p
    simp only [List.length_cons] at hl
    obtain ⟨x, y, z, e⟩ := brk_loop w X qs ps (i + 1) (acc ++ wI i (wordsAt b.h q.1 q.2 p)) (.d (.int i)) (.d (pD q)) (.d (ptD p)) (by simp [wI]; omega)
    refine ⟨x, y, z, ?_⟩
    have e2 : acc ++ brk b.h i (q :: qs) (p :: ps) = (acc ++ wI i (wordsAt b.h q.1 q.2 p)) ++ brk b.h (i + 1) qs ps := by simp [brk]
    rw [e2, ← e]
    simp only [List.map_cons, List.zipWith_cons_cons, enumD, forDo_cons]
    have t13 : getL T18 13 = F13 := rfl
    have e13 := f13 b.h q.1 q.2 p w.h2 w.h6
    have e13 : F13 [.d (.int b.h), .d (pD q), .d (ptD p)] = .ok (.d (.tuple (wordsAt b.h q.1 q.2 p))) [.d (.int b.h), .d (pD q), .d (ptD p)] := e13
    have b0 : idxD (bkD b) (.int 0) = some (.int b.h) := idx0 _ _
    have lw := lc_words (getL T18) i (wordsAt b.h q.1 q.2 p) 3 6 [.d (bkD b), X, .ol acc, .d (.int i), .d (pD q), .d (ptD p), .un] (by have := sx; omega) rfl rfl (by simp) (by decide)
    have hl2 : acc.length + (wI i (wordsAt b.h q.1 q.2 p)).length ≤ sizeLine := by simp [wI]; omega
    clear e e2
    generalize bkD b = B at *
    generalize ptD p = Z at *
    generalize pD q = Q at *
    generalize hW : wI i (wordsAt b.h q.1 q.2 p) = WI at *
    generalize wordsAt b.h q.1 q.2 p = WA at *
    simp [tsLen, t13, doCall, putOuts, e13, b0, lw, hl2, mtOwn]
theorem lay_len (b : Bk) : ∀ (ps : List Pt) (q : Int × Int), (layAll b ps q).1.length = ps.length
  | [], q => rfl
  | p :: ps, q => by simp [layAll, lay_len b ps]
section
variable {b : Bk} (w : WF b) {ps : List Pt} (h : ∀ p ∈ ps, p ∈ partsOf b.ks) (hl : ps.length ≤ 1000)
include w h hl
theorem fBrk : F18 [.d (bkD b), .d (txD ps)] = .ok (.ol (brk b.h 0 (layAll b ps (0, 0)).1 ps)) [.d (bkD b), .d (txD ps)] := by
  have sx := sx
  obtain ⟨x, y, z, e⟩ := brk_loop w (.d (txD ps)) (layAll b ps (0, 0)).1 ps 0 [] .un .un .un (by rw [lay_len]; simp; omega)
  have t16 : getL T18 16 = F16 := rfl
  have e16 := fLaid w h (by omega)
  have i0 : idxD (.tuple [.list ((layAll b ps (0, 0)).1.map pD), pD (layAll b ps (0, 0)).2]) (.int 0) = some (.list ((layAll b ps (0, 0)).1.map pD)) := idx0 _ _
  have s0 : sizeLine ≥ 0 := Nat.zero_le _
  generalize brk b.h 0 (layAll b ps (0, 0)).1 ps = R at *
  generalize (layAll b ps (0, 0)).1.map pD = L at *
  generalize pD (layAll b ps (0, 0)).2 = Q at *
  generalize bkD b = B at *
  simp only [List.nil_append] at e
  simp only [txD] at *
  generalize ps.map ptD = M at *
  simp [F18, fn18, evFn, t16, doCall, putOuts, e16, i0, e, SO.free, s0]
theorem fBroken : F23 [.d (bkD b), .d (txD ps)] = .ok (.ol (brk b.h 0 (layAll b ps (0, 0)).1 ps)) [.d (bkD b), .d (txD ps)] := by
  have sx := sx
  have t6 : getL T23 6 = F6 := rfl
  have t10 : getL T23 10 = F10 := rfl
  have t18 : getL T23 18 = F18 := rfl
  simp [F23, fn23, evFn, t6, t10, t18, doCall, putOuts, f6 w, f10 w h (by omega), fBrk w h hl]
end
end Pg
end
section
set_option Elab.async false
set_option linter.all false
set_option maxRecDepth 100000
set_option maxHeartbeats 1000000
/-! TD: law's own words, spreads (k03) -/
namespace Pg
open PySem PySem.Spec PyProof.Rows L2 PySem.W FF
/-- _law_spoken -/
theorem g33 {b : Bk} (w : WF b) {p : Pt} (h : p ∈ partsOf b.ks) (q : Int × Int) : F33 [.d (bkD b), .d (pD q), .d (ptD p)] = .ok (.d (.tuple (wordsAt b.h q.1 q.2 p))) [.d (bkD b), .d (pD q), .d (ptD p)] := by
  have pp := w.part h
  have e := g26 b q.1 q.2 p w.h2 w.h6 pp.1 (by have := pp.2.1; omega) pp.2.2.1 (by have := pp.2.2.2; omega)
  rw [spoken_eq w.h2 w.h6 pp.1 pp.2.2.1] at e
  exact e
/-! places stay small -/
theorem begun_max {b : Bk} (w : WF b) {l r M : Int} (p : Pt) (lv : Bool) (l0 : 0 ≤ l) (r0 : 0 ≤ r) (lM : l ≤ M) (rM : r ≤ M) : 0 ≤ (begunAt b l r p lv).1 ∧ 0 ≤ (begunAt b l r p lv).2 ∧ (begunAt b l r p lv).1 ≤ M ∧ (begunAt b l r p lv).2 ≤ M := by
  have h2 := w.h2
  have h6 := w.h6
  have hh : b.h = 2 ∨ b.h = 3 ∨ b.h = 4 ∨ b.h = 5 ∨ b.h = 6 := by omega
  have fl : ∀ x : Int, 0 ≤ x → 0 ≤ x.fdiv b.h * b.h ∧ x.fdiv b.h * b.h ≤ x := by
    intro x x0
    rcases hh with e | e | e | e | e <;> rw [e] <;> simp only [Int.fdiv_eq_ediv_of_nonneg _ (show (0:Int) ≤ 2 by decide), Int.fdiv_eq_ediv_of_nonneg _ (show (0:Int) ≤ 3 by decide), Int.fdiv_eq_ediv_of_nonneg _ (show (0:Int) ≤ 4 by decide), Int.fdiv_eq_ediv_of_nonneg _ (show (0:Int) ≤ 5 by decide), Int.fdiv_eq_ediv_of_nonneg _ (show (0:Int) ≤ 6 by decide)] <;> omega
  unfold begunAt
  have hq : ∀ c : Bool, 0 ≤ (if c = true then (if r > l then r else l, if r > l then r else l) else (l, r)).1 ∧ 0 ≤ (if c = true then (if r > l then r else l, if r > l then r else l) else (l, r)).2 ∧ (if c = true then (if r > l then r else l, if r > l then r else l) else (l, r)).1 ≤ M ∧ (if c = true then (if r > l then r else l, if r > l then r else l) else (l, r)).2 ≤ M := by
    intro c
    cases c
    · exact ⟨l0, r0, lM, rM⟩
    · simp only [if_true]
      split <;> exact ⟨by assumption, by assumption, by assumption, by assumption⟩
  have hq := hq (lv || decide (b.l < (if r - l < 0 then -(r - l) else r - l)))
  generalize (if (lv || decide (b.l < (if r - l < 0 then -(r - l) else r - l))) = true then (if r > l then r else l, if r > l then r else l) else (l, r)) = q at hq ⊢
  obtain ⟨x, y⟩ := q
  obtain ⟨a1, a2, a3, a4⟩ := hq
  dsimp only at a1 a2 a3 a4 ⊢
  have f1 := fl x a1
  have f2 := fl y a2
  split
  · exact ⟨f2.1, a2, by omega, a4⟩
  · split
    · exact ⟨a1, f1.1, a3, by omega⟩
    · exact ⟨a1, a2, a3, a4⟩
theorem lay_max {b : Bk} (w : WF b) : ∀ (ps : List Pt) (l r M : Int), (∀ p ∈ ps, p ∈ partsOf b.ks) → 0 ≤ l → 0 ≤ r → l ≤ M → r ≤ M →
    0 ≤ (layAll b ps (l, r)).2.1 ∧ 0 ≤ (layAll b ps (l, r)).2.2 ∧ (layAll b ps (l, r)).2.1 ≤ M + 4 * ps.length ∧ (layAll b ps (l, r)).2.2 ≤ M + 4 * ps.length
  | [], l, r, M, _, a, c, d, e => by simp [layAll]; exact ⟨a, c, d, e⟩
  | p :: ps, l, r, M, h, a, c, d, e => by
    have pp := w.part (h p (.head _))
    obtain ⟨b1, b2, b3, b4⟩ := begun_max w p (levelOf b.ks p) a c d e
    have ih := lay_max w ps ((begunAt b l r p (levelOf b.ks p)).1 + p.l) ((begunAt b l r p (levelOf b.ks p)).2 + p.r) (M + 4) (fun x m => h x (.tail _ m)) (by omega) (by omega) (by omega) (by omega)
    have e2 : (layAll b (p :: ps) (l, r)).2 = (layAll b ps ((begunAt b l r p (levelOf b.ks p)).1 + p.l, (begunAt b l r p (levelOf b.ks p)).2 + p.r)).2 := rfl
    rw [e2]
    obtain ⟨i1, i2, i3, i4⟩ := ih
    simp only [List.length_cons]
    refine ⟨i1, i2, ?_, ?_⟩ <;> push_cast <;> omega
/-! how many spreads -/
theorem range_lt (c : Nat) : ∀ M : Nat, ((List.range M).filter fun k => decide (k < c)).length = min c M
  | 0 => by simp
  | M + 1 => by
    rw [List.range_succ, List.filter_append, List.length_append, range_lt c M]
    by_cases e : M < c
    · simp [e]; omega
    · simp [e]; omega
theorem count_eq {h M : Int} (h2 : 2 ≤ h) (h6 : h ≤ 6) (m0 : 0 ≤ M) : (((List.range M.toNat).filter fun (k : Nat) => decide (((k : Nat) : Int) * h < M)).length : Int) = (M + h - 1).fdiv h := by
  have hp : (0 : Int) < h := by omega
  rw [Int.fdiv_eq_ediv_of_nonneg _ (by omega : (0 : Int) ≤ h)]
  have q0 : 0 ≤ (M + h - 1) / h := Int.ediv_nonneg (by omega) (by omega)
  have q1 : (M + h - 1) / h ≤ M := by
    have a : (M + h - 1) / h < M + 1 := by
      rw [Int.ediv_lt_iff_lt_mul hp]
      have b : M * 1 ≤ M * h := Int.mul_le_mul_of_nonneg_left (by omega) m0
      rw [Int.add_mul, Int.one_mul]
      omega
    omega
  have hc : ∀ k : Nat, decide (((k : Nat) : Int) * h < M) = decide (k < ((M + h - 1) / h).toNat) := by
    intro k
    have a := Int.le_ediv_iff_mul_le (a := (k : Int) + 1) (b := M + h - 1) hp
    rw [Int.add_mul, Int.one_mul] at a
    rw [Bool.eq_iff_iff]
    simp only [decide_eq_true_eq]
    omega
  have e : (fun (k : Nat) => decide (((k : Nat) : Int) * h < M)) = fun k => decide (k < ((M + h - 1) / h).toNat) := funext hc
  rw [e, range_lt]
  omega
def spF' (h M : Int) : D → Option D
  | .int k => if k * h < M then some (.int k) else none
  | _ => none
theorem fm_sp (h M : Int) : ∀ xs : List Nat, (xs.map fun (k : Nat) => (.int ((k : Nat) : Int) : D)).filterMap (spF' h M) = (xs.filter fun (k : Nat) => decide (((k : Nat) : Int) * h < M)).map fun (k : Nat) => .int ((k : Nat) : Int)
  | [] => rfl
  | x :: xs => by
    have ih := fm_sp h M xs
    by_cases c : ((x : Nat) : Int) * h < M
    · simp [spF', c, ih]
    · simp [spF', c, ih]
theorem sp_turn (Γ : Nat → FF.FunD) (B T Q : D) (h M k : Int) (b0 : idxD B (.int 0) = some (.int h)) (hm : ∀ i : Int, binW .mul (.int i) (.int h) = some (.d (.int (i * h)))) (mx : biW .max [Q] = some (.d (.int M))) :
    lcTurn (fun x ρ => asgT Γ (.nm 3) (.d x) ρ) (fun ρ => evCs Γ (.cons (.cmp .lt (.bin .mul (.var 3) (.idx (.var 0) (.k (.int 0)))) (.bi .max (.cons (.var 2) .nil))) .nil) ρ) (fun ρ => dat (evW Γ (.var 3) ρ)) (.int k) [.d B, .d T, .d Q, .un] = .ok (spF' h M (.int k)) [.d B, .d T, .d Q, .d (.int k)] := by
  have lt : cmpD .lt (.int (k * h)) (.int M) = some (decide (k * h < M)) := by simp [cmpD]
  by_cases c : k * h < M
  · simp [lcTurn, b0, hm, mx, lt, c, spF']
  · simp [lcTurn, b0, hm, mx, lt, c, spF']
/-- _law_spreads -/
theorem g35 {b : Bk} (w : WF b) {ps : List Pt} (h : ∀ p ∈ ps, p ∈ partsOf b.ks) (hl : ps.length ≤ 1000) : F35 [.d (bkD b), .d (txD ps)] = .ok (.d (.int (spreadsTo b.h (layAll b ps (0, 0)).2.1 (layAll b ps (0, 0)).2.2))) [.d (bkD b), .d (txD ps)] := by
  have sx := sx
  obtain ⟨m1, m2, m3, m4⟩ := lay_max w ps 0 0 0 h (by decide) (by decide) (by decide) (by decide)
  have t34 : getL T35 34 = F34 := rfl
  have e := g29 w ps h (by omega)
  have e : F34 [.d (bkD b), .d (txD ps)] = _ := e
  have b0 : idxD (bkD b) (.int 0) = some (.int b.h) := idx0 _ _
  have i1 : ∀ L, idxD (.tuple [L, pD (layAll b ps (0, 0)).2]) (.int 1) = some (pD (layAll b ps (0, 0)).2) := fun L => idx1 _ _ _
  unfold spreadsTo
  generalize (layAll b ps (0, 0)).1.map pD = L at *
  generalize (layAll b ps (0, 0)).2 = Q at *
  obtain ⟨l, r⟩ := Q
  dsimp only at m1 m2 m3 m4 ⊢
  have i1 := i1 (.list L)
  have mx : biW .max [pD (l, r)] = some (.d (.int (if l < r then r else l))) := rfl
  have k0 : 0 ≤ (if l < r then r else l) := by split <;> omega
  have k1 : (if l < r then r else l) ≤ 4000 := by split <;> omega
  have ce := count_eq w.h2 w.h6 k0
  have n1 : ∀ i : Int, mulOk i b.h = true := by
    intro i
    have h2 := w.h2
    have h6 := w.h6
    have : (decide (-(2 ^ 64) < b.h) && decide (b.h < 2 ^ 64)) = true := by simp; omega
    simp only [mulOk, this, Bool.true_or, Bool.or_true]
  have hm : ∀ i : Int, binW .mul (.int i) (.int b.h) = some (.d (.int (i * b.h))) := fun i => mul_int (n1 i)
  generalize (if l < r then r else l) = M at *
  have ok : rangeOk 0 M = true := by simp [rangeOk]; omega
  have rd : rangeD 0 M = (List.range M.toNat).map fun (k : Nat) => (.int ((k : Nat) : Int) : D) := by simp [rangeD]
  have e1 := lcDo_map (getL T35) (own := [3]) (t := .nm 3) (c := (.cons (.cmp .lt (.bin .mul (.var 3) (.idx (.var 0) (.k (.int 0)))) (.bi .max (.cons (.var 2) .nil))) .nil)) (e := .var 3)
    (f := spF' b.h M) (ρ := [.d (bkD b), .d (txD ps), .d (pD (l, r)), .un]) (xs := rangeD 0 M) (by
      intro x hx
      rw [rd] at hx
      obtain ⟨k, m, rfl⟩ := List.mem_map.mp hx
      exact ⟨_, sp_turn _ _ _ _ _ _ _ b0 hm mx, by simp⟩) [] (by rw [rd]; simp; omega)
  have e2 : (rangeD 0 M).filterMap (spF' b.h M) = _ := (congrArg (fun z => z.filterMap (spF' b.h M)) rd).trans (fm_sp b.h M (List.range M.toNat))
  rw [e2, List.nil_append] at e1
  have ln : ∀ ys : List Nat, biW .len [.list (ys.map fun (k : Nat) => (.int ((k : Nat) : Int) : D))] = some (.d (.int ys.length)) := fun ys => by simp [biW]
  have ln := ln ((List.range M.toNat).filter fun (k : Nat) => decide (((k : Nat) : Int) * b.h < M))
  rw [ce] at ln
  clear ce rd e2
  generalize ((List.range M.toNat).filter fun (k : Nat) => decide (((k : Nat) : Int) * b.h < M)).map (fun (k : Nat) => (.int ((k : Nat) : Int) : D)) = YS at *
  generalize bkD b = B at *
  generalize txD ps = T at *
  generalize pD (l, r) = Q at *
  simp [F35, fn35, evFn, t34, doCall, putOuts, e, i1, mx, ok, e1, ln]
end Pg
end
section
set_option Elab.async false
set_option linter.all false
set_option maxRecDepth 100000
set_option maxHeartbeats 1000000
/-! TE: what is no text, no book (k03) -/
namespace Pg
open PySem PySem.Spec PyProof.Rows L2 PySem.W FF
theorem so2r (a b c d : D) (r : List W) : sameOwn [.d a, .d b] (.d c :: .d d :: r) = true := rfl
theorem f8_str (K : D) (n : Str) : F8 [.d K, .d (.str n)] = .ok (.d (.bool false)) [.d K, .d (.str n)] := by
  have ty : isiW .tuple (.str n) = some (.d (.bool false)) := rfl
  simp [F8, fn8, evFn, ty]
theorem f8_int (K : D) (n : Int) : F8 [.d K, .d (.int n)] = .ok (.d (.bool false)) [.d K, .d (.int n)] := by
  have ty : isiW .tuple (.int n) = some (.d (.bool false)) := rfl
  simp [F8, fn8, evFn, ty]
theorem f9_not {K x : D} (ty : isiW .tuple x = some (.d (.bool false))) : F9 [.d K, .d x] = .ok (.d (.bool false)) [.d K, .d x] := by
  simp [F9, fn9, evFn, ty]
theorem fm_false (xs : List D) : xs.filterMap (fun _ : D => some (PyData.bool false)) = List.replicate xs.length (.bool false) := by
  induction xs with
  | nil => rfl
  | cons x xs ih => simp [ih, List.replicate_succ]
theorem all_false (n : Nat) : biW .all [.list (List.replicate (n + 1) (.bool false))] = some (.d (.bool false)) := by
  have : ∀ m, boolsD (List.replicate m (.bool false)) = some (List.replicate m false) := by
    intro m
    induction m with
    | zero => rfl
    | succ m ih => simp [List.replicate_succ, boolsD, ih]
  have t := this (n + 1)
  have e : biW .all [.list (List.replicate (n + 1) (.bool false))] = (boolsD (List.replicate (n + 1) (.bool false))).map fun bs => .d (.bool (bs.all id)) := rfl
  rw [e, t, List.replicate_succ]
  rfl
theorem f9_bad {K : D} (x : D) (xs : List D) (ty : isiW .tuple (.tuple (x :: xs)) = some (.d (.bool true))) (hl : (x :: xs).length ≤ sizeLine) (h : ∀ y ∈ x :: xs, F8 [.d K, .d y] = .ok (.d (.bool false)) [.d K, .d y]) : F9 [.d K, .d (.tuple (x :: xs))] = .ok (.d (.bool false)) [.d K, .d (.tuple (x :: xs))] := by
  have t8 : getL T9 8 = F8 := rfl
  have e1 := lcDo_map (getL T9) (own := [2]) (t := .nm 2) (c := .nil) (e := .call 8 (.cons (.var 0) (.cons (.var 2) .nil)))
    (f := fun _ => some (.bool false)) (ρ := [.d K, .d (.tuple (x :: xs)), .un]) (xs := x :: xs) (by
      intro y hy
      have e := h y hy
      generalize PyData.tuple (x :: xs) = T
      exact ⟨[.d K, .d T, .d y], by simp [lcTurn, t8, doCall, putOuts, e], by simp⟩) [] (by simpa using hl)
  rw [fm_false, List.nil_append, List.length_cons] at e1
  have al := all_false xs.length
  generalize List.replicate (xs.length + 1) (PyData.bool false) = R at *
  have it : itemsOf (.tuple (x :: xs)) = some (x :: xs) := rfl
  generalize x :: xs = Y at *
  simp [F9, fn9, evFn, t8, doCall, putOuts, ty, lockW, freeW, e1, al]
def bads : List D := [.none, .list [], .tuple [.str "a", .int 1, .int 2], .tuple [.tuple [.str "zz", .int 1, .int 2]], .tuple [.none]]
theorem bads_f9 {b : Bk} (w : WF b) : ∀ x ∈ bads, F9 [.d (bkD b), .d x] = .ok (.d (.bool false)) [.d (bkD b), .d x] := by
  intro x hx
  have z3 : (3 : Nat) ≤ sizeLine := by decide
  have z1 : (1 : Nat) ≤ sizeLine := by decide
  simp only [bads, List.mem_cons, List.not_mem_nil, or_false] at hx
  rcases hx with rfl | rfl | rfl | rfl | rfl
  · exact f9_not rfl
  · exact f9_not rfl
  · refine f9_bad _ _ rfl z3 fun y hy => ?_
    simp only [List.mem_cons, List.not_mem_nil, or_false] at hy
    rcases hy with rfl | rfl | rfl
    · exact f8_str _ _
    · exact f8_int _ _
    · exact f8_int _ _
  · refine f9_bad _ _ rfl z1 fun y hy => ?_
    simp only [List.mem_cons, List.not_mem_nil, or_false] at hy
    subst hy
    exact f8_zz w
  · refine f9_bad _ _ rfl z1 fun y hy => ?_
    simp only [List.mem_cons, List.not_mem_nil, or_false] at hy
    subst hy
    exact f8_none _
theorem bads_f10 {b : Bk} (w : WF b) : ∀ x ∈ bads, F10 [.d (bkD b), .d x] = .ex 2 := fun x hx => by
  have e := bads_f9 w x hx
  have t9 : getL T10 9 = F9 := rfl
  generalize bkD b = K at *
  simp [F10, fn10, evFn, t9, doCall, putOuts, e, so2r]
theorem f6_three (b : Bk) : F6 [.d (.tuple [.int b.h, .int b.l, .bool b.hd])] = .ex 1 := by
  have ty : isiW .tuple (.tuple [.int b.h, .int b.l, .bool b.hd]) = some (.d (.bool true)) := rfl
  have ln : biW .len [.tuple [.int b.h, .int b.l, .bool b.hd]] = some (.d (.int 3)) := rfl
  have n4 : cmpD .ne (.int 3) (.int 4) = some true := rfl
  have u5 : getL T6 5 = F5 := rfl
  have so1 : ∀ (a c : D) (r : List W), sameOwn [.d a] (.d c :: r) = true := fun _ _ _ => rfl
  generalize (PyData.tuple [.int b.h, .int b.l, .bool b.hd]) = K at *
  have e5 : F5 [.d K] = .ok (.d (.bool false)) [.d K] := by simp [F5, fn5, evFn, ty, ln, n4]
  simp [so1, F6, fn6, evFn, u5, doCall, putOuts, e5]
theorem calls_text {b : Bk} (w : WF b) {x : D} (hx : x ∈ bads) {f : Nat} (hf : f = 20 ∨ f = 21 ∨ f = 22 ∨ f = 23) : getL T36 f [.d (bkD b), .d x] = .ex 2 := by
  have e6 := f6 w
  have e10 := bads_f10 w x hx
  rcases hf with rfl | rfl | rfl | rfl
  · have t : getL T36 20 = F20 := rfl
    rw [t]
    have t6 : getL T20 6 = F6 := rfl
    have t10 : getL T20 10 = F10 := rfl
    simp [F20, fn20, evFn, t6, t10, doCall, putOuts, e6, e10, so2r]
  · have t : getL T36 21 = F21 := rfl
    rw [t]
    have t6 : getL T21 6 = F6 := rfl
    have t10 : getL T21 10 = F10 := rfl
    simp [F21, fn21, evFn, t6, t10, doCall, putOuts, e6, e10, so2r]
  · have t : getL T36 22 = F22 := rfl
    rw [t]
    have t6 : getL T22 6 = F6 := rfl
    have t10 : getL T22 10 = F10 := rfl
    simp [F22, fn22, evFn, t6, t10, doCall, putOuts, e6, e10, so2r]
  · have t : getL T36 23 = F23 := rfl
    rw [t]
    have t6 : getL T23 6 = F6 := rfl
    have t10 : getL T23 10 = F10 := rfl
    simp [F23, fn23, evFn, t6, t10, doCall, putOuts, e6, e10, so2r]
theorem calls_book {x y : D} (e6 : F6 [.d x] = .ex 1) {f : Nat} (hf : f = 20 ∨ f = 21 ∨ f = 22 ∨ f = 23) : getL T36 f [.d x, .d y] = .ex 1 := by
  rcases hf with rfl | rfl | rfl | rfl
  · have t : getL T36 20 = F20 := rfl
    rw [t]
    have t6 : getL T20 6 = F6 := rfl
    simp [F20, fn20, evFn, t6, doCall, putOuts, e6, so2r]
  · have t : getL T36 21 = F21 := rfl
    rw [t]
    have t6 : getL T21 6 = F6 := rfl
    simp [F21, fn21, evFn, t6, doCall, putOuts, e6, so2r]
  · have t : getL T36 22 = F22 := rfl
    rw [t]
    have t6 : getL T22 6 = F6 := rfl
    simp [F22, fn22, evFn, t6, doCall, putOuts, e6, so2r]
  · have t : getL T36 23 = F23 := rfl
    rw [t]
    have t6 : getL T23 6 = F6 := rfl
    simp [F23, fn23, evFn, t6, doCall, putOuts, e6, so2r]
end Pg
end
section
set_option Elab.async false
set_option linter.all false
set_option maxRecDepth 100000
set_option maxHeartbeats 2000000
/-! TF: law, one text (k03; printed by gentf.py) -/
namespace Pg
open PySem PySem.Spec PyProof.Rows L2 PySem.W FF
theorem plainAll_app : ∀ xs ys : List D, PyData.plainAll (xs ++ ys) = (PyData.plainAll xs && PyData.plainAll ys)
  | [], ys => by simp [PyData.plainAll]
  | x :: xs, ys => by simp [PyData.plainAll, plainAll_app xs ys, Bool.and_assoc]
theorem depthAll_app (n : Nat) : ∀ xs ys : List D, PyData.depthAll xs ≤ n → PyData.depthAll ys ≤ n → PyData.depthAll (xs ++ ys) ≤ n
  | [], ys, _, h => h
  | x :: xs, ys, h1, h2 => by
    simp only [List.cons_append, PyData.depthAll] at h1 ⊢
    have := depthAll_app n xs ys (by omega) h2
    omega
theorem words3 (h l r : Int) (p : Pt) : wordsAt h l r p = [] ∨ wordsAt h l r p = [.str "apart", .str "torn"] ∨ wordsAt h l r p = [.str "torn"] := by
  unfold wordsAt
  split
  · exact .inl rfl
  · split
    · exact .inr (.inl rfl)
    · exact .inr (.inr rfl)
theorem wI_ok (i : Nat) (h l r : Int) (p : Pt) : PyData.plainAll (wI i (wordsAt h l r p)) = true ∧ PyData.depthAll (wI i (wordsAt h l r p)) ≤ 5 := by
  rcases words3 h l r p with e | e | e <;> rw [e] <;> simp [wI, PyData.plainAll, PyData.plain, PyData.depthAll, PyData.depth]
theorem brk_ok (h : Int) : ∀ (qs : List (Int × Int)) (ps : List Pt) (i : Nat), PyData.plainAll (brk h i qs ps) = true ∧ PyData.depthAll (brk h i qs ps) ≤ 5
  | [], _, _ => by simp [brk, PyData.plainAll, PyData.depthAll]
  | q :: qs, [], _ => by simp [brk, PyData.plainAll, PyData.depthAll]
  | q :: qs, p :: ps, i => by
    obtain ⟨a, b⟩ := wI_ok i h q.1 q.2 p
    obtain ⟨c, d⟩ := brk_ok h qs ps (i + 1)
    rw [brk]
    exact ⟨by rw [plainAll_app, a, c]; rfl, depthAll_app 5 _ _ b d⟩
theorem ne_brk (h : Int) (qs : List (Int × Int)) (ps : List Pt) (i : Nat) : cmpD .ne (.list (brk h i qs ps)) (.list (brk h i qs ps)) = some false := by
  obtain ⟨a, b⟩ := brk_ok h qs ps i
  have pl : PyData.plain (.list (brk h i qs ps)) = true := by simp [PyData.plain, a]
  have e : eqOk (.list (brk h i qs ps)) = true := by simp [eqOk, pl, PyData.depth]; omega
  simp only [cmpD, e, Bool.and_self, if_true, PySem.SeqAt.eqv_refl_plain _ pl]
  rfl
abbrev BW : Ss := (.cons (.asg (.nm 11) (.bin .add (.var 11) (.lc [13] (.nm 13) (.it (.call 33 (.cons (.var 3) (.cons (.idx (.var 5) (.var 12)) (.cons (.var 9) .nil))))) .nil (.tup (.cons (.var 12) (.cons (.var 13) .nil))))))
    .nil)
abbrev SA : S := (.asg (.tp (.cons (.nm 5) (.cons (.nm 6) .nil))) (.call 34 (.cons (.var 3) (.cons (.var 4) .nil))))
abbrev SB : S := (.asg (.nm 7) (.call 20 (.cons (.var 3) (.cons (.var 4) .nil))))
abbrev SC : S := (.if_ (.or (.cmp .ne (.var 7) (.var 5)) (.or (.not (.isi .list (.var 7))) (.one (.cmp .ne (.call 21 (.cons (.var 3) (.cons (.var 4) .nil))) (.call 35 (.cons (.var 3) (.cons (.var 4) .nil))))))) (.cons (.ret (.k (.bool false)))
    .nil) .nil)
abbrev SD : S := (.ex (.app 7 (.tup .nil)))
abbrev SE : S := (.asg (.nm 8) (.tup (.cons (.bi .sum (.cons (.lc [9] (.nm 9) (.lk 4) .nil (.idx (.var 9) (.k (.int 1)))) .nil)) (.cons (.bi .sum (.cons (.lc [9] (.nm 9) (.lk 4) .nil (.idx (.var 9) (.k (.int 2)))) .nil)) .nil))))
abbrev SF : S := (.asg (.nm 10) (.tup (.cons (.bin .sub (.idx (.var 6) (.k (.int 0))) (.idx (.var 8) (.k (.int 0)))) (.cons (.bin .sub (.idx (.var 6) (.k (.int 1))) (.idx (.var 8) (.k (.int 1)))) .nil))))
abbrev SG : S := (.if_ (.or (.cmp .ne (.call 22 (.cons (.var 3) (.cons (.var 4) .nil))) (.var 10)) (.one (.cmp .ne (.call 20 (.cons (.var 3) (.cons (.var 4) .nil))) (.var 5)))) (.cons (.ret (.k (.bool false)))
    .nil) .nil)
abbrev SH : S := (.asg (.nm 11) (.lst .nil))
abbrev SI : S := (.for_ (.tp (.cons (.nm 12) (.cons (.nm 9) .nil))) (.enum (.var 4)) BW)
abbrev SJ : S := (.if_ (.cmp .ne (.call 23 (.cons (.var 3) (.cons (.var 4) .nil))) (.var 11)) (.cons (.ret (.k (.bool false)))
    .nil) .nil)
abbrev BTx : Ss := (.cons SA (.cons SB (.cons SC (.cons SD (.cons SE (.cons SF (.cons SG (.cons SH (.cons SI (.cons SJ .nil))))))))))
theorem words_loop {b : Bk} (w : WF b) (L : List (Int × Int)) (S K WL X x6 x7 x8 x10 x13 x14 x15 : W) : ∀ (ps : List Pt) (pre qs : List (Int × Int)) (acc : List D) (x9 x12 : W), (∀ p ∈ ps, p ∈ partsOf b.ks) → L = pre ++ qs → qs.length = ps.length → acc.length + 2 * qs.length ≤ sizeLine →
    ∃ x9' x12', forDo (getL T36) (.tp (.cons (.nm 12) (.cons (.nm 9) .nil))) BW (enumD pre.length (ps.map ptD)) [S, K, WL, .d (bkD b), X, .d (.list (L.map pD)), x6, x7, x8, x9, x10, .ol acc, x12, x13, x14, x15]
      = .nx [S, K, WL, .d (bkD b), X, .d (.list (L.map pD)), x6, x7, x8, x9', x10, .ol (acc ++ brk b.h pre.length qs ps), x12', x13, x14, x15]
  | [], pre, qs, acc, x9, x12, _, _, h, _ => by
    cases qs with
    | nil => exact ⟨x9, x12, by simp [forDo_nil, enumD, brk]⟩
    | cons _ _ => simp at h
  | p :: ps, pre, [], acc, x9, x12, _, _, h, _ => by simp at h
  | p :: ps, pre, q :: qs, acc, x9, x12, hp, hL, hl, hs => by
    have wl := words_len b.h q.1 q.2 p
    simp only [List.length_cons] at hs
    obtain ⟨y, z, e⟩ := words_loop w L S K WL X x6 x7 x8 x10 x13 x14 x15 ps (pre ++ [q]) qs (acc ++ wI pre.length (wordsAt b.h q.1 q.2 p)) (.d (ptD p)) (.d (.int pre.length)) (fun p m => hp p (.tail _ m)) (by rw [hL]; simp) (by simpa using hl) (by simp [wI]; omega)
    refine ⟨y, z, ?_⟩
    have e2 : acc ++ brk b.h pre.length (q :: qs) (p :: ps) = (acc ++ wI pre.length (wordsAt b.h q.1 q.2 p)) ++ brk b.h (pre.length + 1) qs ps := by simp [brk]
    rw [List.length_append, List.length_singleton] at e
    rw [e2, ← e]
    simp only [List.map_cons, enumD, forDo_cons]
    have t33 : getL T36 33 = F33 := rfl
    have e33 := g33 w (hp p (.head _)) q
    have ix : idxD (.list (L.map pD)) (.int pre.length) = some (pD q) := by
      show L2.atI _ _ = _
      rw [atI_nat _ _ (by rw [hL]; simp), hL]
      simp
    have lw := lc_words (getL T36) pre.length (wordsAt b.h q.1 q.2 p) 12 13 [S, K, WL, .d (bkD b), X, .d (.list (L.map pD)), x6, x7, x8, .d (ptD p), x10, .ol acc, .d (.int pre.length), .un, x14, x15] (by have := sx; omega) rfl rfl (by simp) (by decide)
    have hl2 : acc.length + (wI pre.length (wordsAt b.h q.1 q.2 p)).length ≤ sizeLine := by simp [wI]; omega
    have ad : binW .add (.list acc) (.list (wI pre.length (wordsAt b.h q.1 q.2 p))) = some (.ol (acc ++ wI pre.length (wordsAt b.h q.1 q.2 p))) := if_pos hl2
    clear e e2 hL
    generalize bkD b = B at *
    generalize ptD p = Z at *
    generalize pD q = Q at *
    generalize L.map pD = LD at *
    generalize pre.length = i at *
    generalize hW : wI i (wordsAt b.h q.1 q.2 p) = WI at *
    generalize wordsAt b.h q.1 q.2 p = WA at *
    simp [tsLen, t33, doCall, putOuts, e33, ix, lw, ad]
end Pg
end
section
set_option Elab.async false
set_option linter.all false
set_option maxRecDepth 100000
set_option maxHeartbeats 2000000
/-! TG: law, one text (k03; printed by gentg.py) -/
namespace Pg
open PySem PySem.Spec PyProof.Rows L2 PySem.W FF
theorem plain_pD (p : Int × Int) : (pD p).plain = true := rfl
theorem ne_begins' (L : List (Int × Int)) : cmpD .ne (.list (L.map pD)) (.list (L.map pD)) = some false := by
  rw [ne_begins, decide_eq_true rfl]; rfl
theorem ne_pD' (p : Int × Int) : cmpD .ne (pD p) (pD p) = some false := by
  rw [ne_pD, decide_eq_true rfl]; rfl
theorem textT {b : Bk} (w : WF b) {ps : List Pt} (h : ∀ p ∈ ps, p ∈ partsOf b.ks) (hl : ps.length ≤ 1000) (S K WL x5 x6 x7 x8 x9 x10 x11 x12 x13 x14 x15 : W) :
    ∃ y5 y6 y7 y8 y9 y10 y11 y12, evSs (getL T36) BTx [S, K, WL, .d (bkD b), .d (txD ps), x5, x6, x7, x8, x9, x10, x11, x12, x13, x14, x15] = .nx [S, K, WL, .d (bkD b), .d (txD ps), y5, y6, y7, y8, y9, y10, y11, y12, x13, x14, x15] := by
  have sx := sx
  have e34 : F34 [.d (bkD b), .d (txD ps)] = _ := g29 w ps h (by omega)
  have e20 := fBegins w h (by omega)
  have e21 := fSpreads w h (by omega)
  have e35 := g35 w h hl
  have e22 := fBlanks w h (by omega)
  have e23 := fBroken w h hl
  have nb := ne_brk b.h (layAll b ps (0, 0)).1 ps 0
  have ll := lay_len b ps (0, 0)
  have lb := brk_len b.h (layAll b ps (0, 0)).1 ps 0
  have c1 := fun ρ hi hn => lc_side (getL T36) ps (by omega) 1 (·.l) (fun p => idx1 _ _ _) 9 ρ hi hn
  have c2 := fun ρ hi hn => lc_side (getL T36) ps (by omega) 2 (·.r) (fun p => idx2 _ _ _ _) 9 ρ hi hn
  generalize hL : (layAll b ps (0, 0)).1 = L at *
  generalize (layAll b ps (0, 0)).2 = Q at *
  obtain ⟨l, r⟩ := Q
  dsimp only at e34 e21 e35 e22
  have t34 : getL T36 34 = F34 := rfl
  have t20 : getL T36 20 = F20 := rfl
  have t21 : getL T36 21 = F21 := rfl
  have t22 : getL T36 22 = F22 := rfl
  have t23 : getL T36 23 = F23 := rfl
  have t35 : getL T36 35 = F35 := rfl
  have sm := fun ns => sum_ints ns
  have z2 : sizeLine ≥ 2 := by decide
  have z0 : sizeLine ≥ 0 := Nat.zero_le _
  have nL := ne_begins' L
  have ty : isiW .list (.list (L.map pD)) = some (.d (.bool true)) := by
    have : PyData.plain (.list (L.map pD)) = true := by simp only [PyData.plain]; exact plainAll_map pD plain_pD L
    simp [isiW, this]
  have hlt : (L.map pD).length < sizeLine := by simp; omega
  generalize spreadsTo b.h l r = sp at *
  have nsp : cmpD .ne (.int sp) (.int sp) = some false := by rw [ne_int, decide_eq_true rfl]; rfl
  obtain ⟨y, z, wlp⟩ := words_loop w L S K WL (.d (txD ps)) (.d (pD (l, r))) (.ol (L.map pD ++ [.tuple []])) (.d (.tuple [.int (ps.map (·.l)).sum, .int (ps.map (·.r)).sum])) (.d (pD (l - (ps.map (·.l)).sum, r - (ps.map (·.r)).sum))) x13 x14 x15 ps [] L [] x9 x12 h rfl ll (by simp; omega)
  rw [List.length_nil, List.nil_append] at wlp
  have it : itemsOf (txD ps) = some (ps.map ptD) := rfl
  generalize hR : brk b.h 0 L ps = R at *
  generalize ps.map (fun x => x.l) = nl at *
  generalize ps.map (fun x => x.r) = nr at *
  have nP := ne_pD' (l - nl.sum, r - nr.sum)
  have q1 : evS (getL T36) SA [S, K, WL, .d (bkD b), .d (txD ps), x5, x6, x7, x8, x9, x10, x11, x12, x13, x14, x15] = .nx [S, K, WL, .d (bkD b), .d (txD ps), .d (.list (L.map pD)), .d (pD (l, r)), x7, x8, x9, x10, x11, x12, x13, x14, x15] := by
    simp only [pD] at *
    generalize bkD b = B at *
    generalize txD ps = T at *
    generalize L.map (fun p => PyData.tuple [PyData.int p.1, PyData.int p.2]) = LD at *
    simp [t34, doCall, putOuts, e34, tsLen]
  have q2 : evS (getL T36) SB [S, K, WL, .d (bkD b), .d (txD ps), .d (.list (L.map pD)), .d (pD (l, r)), x7, x8, x9, x10, x11, x12, x13, x14, x15] = .nx [S, K, WL, .d (bkD b), .d (txD ps), .d (.list (L.map pD)), .d (pD (l, r)), .ol (L.map pD), x8, x9, x10, x11, x12, x13, x14, x15] := by
    generalize bkD b = B at *
    generalize txD ps = T at *
    generalize L.map pD = LD at *
    generalize pD (l, r) = Q at *
    simp [t20, doCall, putOuts, e20]
  have q3 : evS (getL T36) SC [S, K, WL, .d (bkD b), .d (txD ps), .d (.list (L.map pD)), .d (pD (l, r)), .ol (L.map pD), x8, x9, x10, x11, x12, x13, x14, x15] = .nx [S, K, WL, .d (bkD b), .d (txD ps), .d (.list (L.map pD)), .d (pD (l, r)), .ol (L.map pD), x8, x9, x10, x11, x12, x13, x14, x15] := by
    generalize bkD b = B at *
    generalize txD ps = T at *
    generalize L.map pD = LD at *
    generalize pD (l, r) = Q at *
    simp [t21, t35, doCall, putOuts, e21, e35, nL, ty, nsp]
  have q4 : evS (getL T36) SD [S, K, WL, .d (bkD b), .d (txD ps), .d (.list (L.map pD)), .d (pD (l, r)), .ol (L.map pD), x8, x9, x10, x11, x12, x13, x14, x15] = .nx [S, K, WL, .d (bkD b), .d (txD ps), .d (.list (L.map pD)), .d (pD (l, r)), .ol (L.map pD ++ [.tuple []]), x8, x9, x10, x11, x12, x13, x14, x15] := by
    generalize bkD b = B at *
    generalize txD ps = T at *
    generalize L.map pD = LD at *
    generalize pD (l, r) = Q at *
    simp [hlt, z0]
  have q5 : evS (getL T36) SE [S, K, WL, .d (bkD b), .d (txD ps), .d (.list (L.map pD)), .d (pD (l, r)), .ol (L.map pD ++ [.tuple []]), x8, x9, x10, x11, x12, x13, x14, x15] = .nx [S, K, WL, .d (bkD b), .d (txD ps), .d (.list (L.map pD)), .d (pD (l, r)), .ol (L.map pD ++ [.tuple []]), .d (.tuple [.int nl.sum, .int nr.sum]), x9, x10, x11, x12, x13, x14, x15] := by
    have d1 := c1 [S, K, WL, .d (bkD b), .d (txD ps), .d (.list (L.map pD)), .d (pD (l, r)), .ol (L.map pD ++ [.tuple []]), x8, .un, x10, x11, x12, x13, x14, x15] rfl (by simp)
    have d2 := c2 [S, K, WL, .d (bkD b), .d (txD ps), .d (.list (L.map pD)), .d (pD (l, r)), .ol (L.map pD ++ [.tuple []]), x8, .un, x10, x11, x12, x13, x14, x15] rfl (by simp)
    clear c1 c2
    generalize bkD b = B at *
    simp only [txD] at *
    generalize L.map pD = LD at *
    generalize pD (l, r) = Q at *
    simp [lockW, freeW, d1, d2, sm, z2]
  have q6 : evS (getL T36) SF [S, K, WL, .d (bkD b), .d (txD ps), .d (.list (L.map pD)), .d (pD (l, r)), .ol (L.map pD ++ [.tuple []]), .d (.tuple [.int nl.sum, .int nr.sum]), x9, x10, x11, x12, x13, x14, x15] = .nx [S, K, WL, .d (bkD b), .d (txD ps), .d (.list (L.map pD)), .d (pD (l, r)), .ol (L.map pD ++ [.tuple []]), .d (.tuple [.int nl.sum, .int nr.sum]), x9, .d (pD (l - nl.sum, r - nr.sum)), x11, x12, x13, x14, x15] := by
    have i0 : idxD (pD (l, r)) (.int 0) = some (.int l) := idx0 _ _
    have i1 : idxD (pD (l, r)) (.int 1) = some (.int r) := idx1 _ _ _
    have u : pD (l - nl.sum, r - nr.sum) = .tuple [.int (l - nl.sum), .int (r - nr.sum)] := rfl
    rw [u]
    generalize bkD b = B at *
    generalize txD ps = T at *
    generalize L.map pD = LD at *
    generalize pD (l, r) = Q at *
    simp [i0, i1, z2]
  have q7 : evS (getL T36) SG [S, K, WL, .d (bkD b), .d (txD ps), .d (.list (L.map pD)), .d (pD (l, r)), .ol (L.map pD ++ [.tuple []]), .d (.tuple [.int nl.sum, .int nr.sum]), x9, .d (pD (l - nl.sum, r - nr.sum)), x11, x12, x13, x14, x15] = .nx [S, K, WL, .d (bkD b), .d (txD ps), .d (.list (L.map pD)), .d (pD (l, r)), .ol (L.map pD ++ [.tuple []]), .d (.tuple [.int nl.sum, .int nr.sum]), x9, .d (pD (l - nl.sum, r - nr.sum)), x11, x12, x13, x14, x15] := by
    generalize bkD b = B at *
    generalize txD ps = T at *
    generalize L.map pD = LD at *
    generalize pD (l, r) = Q at *
    generalize pD (l - nl.sum, r - nr.sum) = Q2 at *
    simp [t20, t22, doCall, putOuts, e20, e22, nL, nP]
  have q8 : evS (getL T36) SH [S, K, WL, .d (bkD b), .d (txD ps), .d (.list (L.map pD)), .d (pD (l, r)), .ol (L.map pD ++ [.tuple []]), .d (.tuple [.int nl.sum, .int nr.sum]), x9, .d (pD (l - nl.sum, r - nr.sum)), x11, x12, x13, x14, x15] = .nx [S, K, WL, .d (bkD b), .d (txD ps), .d (.list (L.map pD)), .d (pD (l, r)), .ol (L.map pD ++ [.tuple []]), .d (.tuple [.int nl.sum, .int nr.sum]), x9, .d (pD (l - nl.sum, r - nr.sum)), .ol [], x12, x13, x14, x15] := by
    simp [z0]
  have q9 : evS (getL T36) SI [S, K, WL, .d (bkD b), .d (txD ps), .d (.list (L.map pD)), .d (pD (l, r)), .ol (L.map pD ++ [.tuple []]), .d (.tuple [.int nl.sum, .int nr.sum]), x9, .d (pD (l - nl.sum, r - nr.sum)), .ol [], x12, x13, x14, x15] = .nx [S, K, WL, .d (bkD b), .d (txD ps), .d (.list (L.map pD)), .d (pD (l, r)), .ol (L.map pD ++ [.tuple []]), .d (.tuple [.int nl.sum, .int nr.sum]), y, .d (pD (l - nl.sum, r - nr.sum)), .ol R, z, x13, x14, x15] := by
    generalize bkD b = B at *
    simp only [txD] at *
    generalize L.map pD = LD at *
    generalize pD (l, r) = Q at *
    generalize pD (l - nl.sum, r - nr.sum) = Q2 at *
    generalize ps.map ptD = M at *
    simp [SO.free, wlp]
  have q10 : evS (getL T36) SJ [S, K, WL, .d (bkD b), .d (txD ps), .d (.list (L.map pD)), .d (pD (l, r)), .ol (L.map pD ++ [.tuple []]), .d (.tuple [.int nl.sum, .int nr.sum]), y, .d (pD (l - nl.sum, r - nr.sum)), .ol R, z, x13, x14, x15] = .nx [S, K, WL, .d (bkD b), .d (txD ps), .d (.list (L.map pD)), .d (pD (l, r)), .ol (L.map pD ++ [.tuple []]), .d (.tuple [.int nl.sum, .int nr.sum]), y, .d (pD (l - nl.sum, r - nr.sum)), .ol R, z, x13, x14, x15] := by
    generalize bkD b = B at *
    generalize txD ps = T at *
    generalize L.map pD = LD at *
    generalize pD (l, r) = Q at *
    generalize pD (l - nl.sum, r - nr.sum) = Q2 at *
    simp [t23, doCall, putOuts, e23, nb]
  have main : evSs (getL T36) BTx [S, K, WL, .d (bkD b), .d (txD ps), x5, x6, x7, x8, x9, x10, x11, x12, x13, x14, x15] = .nx [S, K, WL, .d (bkD b), .d (txD ps), .d (.list (L.map pD)), .d (pD (l, r)), .ol (L.map pD ++ [.tuple []]), .d (.tuple [.int nl.sum, .int nr.sum]), y, .d (pD (l - nl.sum, r - nr.sum)), .ol R, z, x13, x14, x15] := by
    rw [evSs_cons, q1, seq_nx, evSs_cons, q2, seq_nx, evSs_cons, q3, seq_nx, evSs_cons, q4, seq_nx, evSs_cons, q5, seq_nx, evSs_cons, q6, seq_nx, evSs_cons, q7, seq_nx, evSs_cons, q8, seq_nx, evSs_cons, q9, seq_nx, evSs_cons, q10, seq_nx, evSs_nil]
  exact ⟨_, _, _, _, _, _, _, _, main⟩
end Pg
end
section
set_option Elab.async false
set_option linter.all false
set_option maxRecDepth 100000
set_option maxHeartbeats 2000000
/-! TH: the law (k03; printed by genth.py) -/
namespace Pg
open PySem PySem.Spec PyProof.Rows L2 PySem.W FF
theorem evW_told {Γ : Nat → FF.FunD} {ks : List Str} {e : E} {ρ : Sl} : evW Γ (.told ks e) ρ = match dat (evW Γ e ρ) with
    | .ok x ρ => .ok (.d (.tuple [.str toldS, x])) ρ
    | .ex c ρ => (match ks[c]? with
      | some z => .ok (.d (.tuple [.str z])) ρ
      | none => .bad)
    | .bad => .bad := by rw [evW] <;> rfl
theorem opnd_told {ks : List Str} {e : E} {x : O W} {ρ : Sl} : opnd (.told ks e) x ρ = opndD x := by rfl
theorem evS_forf {Γ : Nat → FF.FunD} {i : Nat} {fs : List Nat} {body : Ss} {ρ : Sl} : evS Γ (.forf i fs body) ρ = forfLoop (fun f ρ => if i < ρ.length then evSs Γ body (ρ.set i (.fn f)) else .bad) fs ρ := by rfl
theorem textsL {b : Bk} (w : WF b) (S K WL x13 x14 x15 : W) : ∀ (us : List (List Pt)) (x4 x5 x6 x7 x8 x9 x10 x11 x12 : W), (∀ u ∈ us, (∀ p ∈ u, p ∈ partsOf b.ks) ∧ u.length ≤ 1000) →
    ∃ y4 y5 y6 y7 y8 y9 y10 y11 y12, forDo (getL T36) (.nm 4) BTx (us.map txD) [S, K, WL, .d (bkD b), x4, x5, x6, x7, x8, x9, x10, x11, x12, x13, x14, x15] = .nx [S, K, WL, .d (bkD b), y4, y5, y6, y7, y8, y9, y10, y11, y12, x13, x14, x15]
  | [], x4, x5, x6, x7, x8, x9, x10, x11, x12, _ => ⟨_, _, _, _, _, _, _, _, _, rfl⟩
  | u :: us, x4, x5, x6, x7, x8, x9, x10, x11, x12, h => by
    obtain ⟨h1, h2⟩ := h u (.head _)
    have q0 : asgT (getL T36) (.nm 4) (.d (txD u)) [S, K, WL, .d (bkD b), x4, x5, x6, x7, x8, x9, x10, x11, x12, x13, x14, x15] = .ok () [S, K, WL, .d (bkD b), .d (txD u), x5, x6, x7, x8, x9, x10, x11, x12, x13, x14, x15] := by simp
    obtain ⟨z5, z6, z7, z8, z9, z10, z11, z12, e⟩ := textT w h1 h2 S K WL x5 x6 x7 x8 x9 x10 x11 x12 x13 x14 x15
    obtain ⟨y4, y5, y6, y7, y8, y9, y10, y11, y12, ih⟩ := textsL w S K WL x13 x14 x15 us (.d (txD u)) z5 z6 z7 z8 z9 z10 z11 z12 fun v m => h v (.tail _ m)
    exact ⟨y4, y5, y6, y7, y8, y9, y10, y11, y12, by rw [List.map_cons, forDo_cons, q0, to_ok, e, seq_nx, ih]⟩
abbrev BB : Ss := (.cons (.if_ (.cmp .ne (.told kindsL (.callv 14 [20, 21, 22, 23] (.cons (.var 3) (.cons (.var 15) .nil)))) (.tup (.cons (.k (.str "InvalidText +")) .nil))) (.cons (.ret (.k (.bool false)))
    .nil) .nil)
    .nil)
abbrev LBad : E := (.lst (.cons (.k .none) (.cons (.lst .nil) (.cons (.tup (.cons (.k (.str "a")) (.cons (.k (.int 1)) (.cons (.k (.int 2)) .nil)))) (.cons (.tup (.cons (.tup (.cons (.k (.str "zz")) (.cons (.k (.int 1)) (.cons (.k (.int 2)) .nil)))) .nil)) (.cons (.tup (.cons (.k .none) .nil)) .nil))))))
abbrev SB3 : S := (.if_ (.cmp .ne (.told kindsL (.callv 14 [20, 21, 22, 23] (.cons (.slc (.var 3) .nil (.cons (.k (.int 3)) .nil)) (.cons (.k .none) .nil)))) (.tup (.cons (.k (.str "InvalidBook +")) .nil))) (.cons (.ret (.k (.bool false)))
    .nil) .nil)
abbrev BC : Ss := (.cons (.for_ (.nm 15) (.it LBad) BB) (.cons SB3 .nil))
theorem badL {b : Bk} (w : WF b) {f : Nat} (hf : f = 20 ∨ f = 21 ∨ f = 22 ∨ f = 23) (S K WL x4 x5 x6 x7 x8 x9 x10 x11 x12 x13 : W) : ∀ (xs : List D) (x15 : W), (∀ x ∈ xs, x ∈ bads) → ∃ y15, forDo (getL T36) (.nm 15) BB xs [S, K, WL, .d (bkD b), x4, x5, x6, x7, x8, x9, x10, x11, x12, x13, .fn f, x15] = .nx [S, K, WL, .d (bkD b), x4, x5, x6, x7, x8, x9, x10, x11, x12, x13, .fn f, y15]
  | [], x15, _ => ⟨_, rfl⟩
  | x :: xs, x15, h => by
    have e := calls_text w (h x (.head _)) hf
    have k2 : kindsL[2]? = some ("InvalidText +" : Str) := rfl
    have n1 : cmpD .ne (.tuple [.str "InvalidText +"]) (.tuple [.str "InvalidText +"]) = some false := by rfl
    have z1 : sizeLine ≥ 1 := by decide
    obtain ⟨y, ih⟩ := badL w hf S K WL x4 x5 x6 x7 x8 x9 x10 x11 x12 x13 xs (.d x) fun v m => h v (.tail _ m)
    have st : ((asgT (getL T36) (.nm 15) (.d x) [S, K, WL, .d (bkD b), x4, x5, x6, x7, x8, x9, x10, x11, x12, x13, .fn f, x15]).to fun _ ρ => evSs (getL T36) BB ρ) = .nx [S, K, WL, .d (bkD b), x4, x5, x6, x7, x8, x9, x10, x11, x12, x13, .fn f, .d x] := by
      clear ih h
      generalize bkD b = A at *
      generalize getL T36 = G at *
      simp [evW_told, opnd_told, hf, doCall, putOuts, e, k2, z1, n1]
    exact ⟨y, by rw [forDo_cons, st, seq_nx, ih]⟩
theorem callT {b : Bk} (w : WF b) {f : Nat} (hf : f = 20 ∨ f = 21 ∨ f = 22 ∨ f = 23) (S K WL x4 x5 x6 x7 x8 x9 x10 x11 x12 x13 x15 : W) : ∃ y15, evSs (getL T36) BC [S, K, WL, .d (bkD b), x4, x5, x6, x7, x8, x9, x10, x11, x12, x13, .fn f, x15] = .nx [S, K, WL, .d (bkD b), x4, x5, x6, x7, x8, x9, x10, x11, x12, x13, .fn f, y15] := by
  obtain ⟨y, e⟩ := badL w hf S K WL x4 x5 x6 x7 x8 x9 x10 x11 x12 x13 bads x15 fun _ m => m
  have q1 : evS (getL T36) (.for_ (.nm 15) (.it LBad) BB) [S, K, WL, .d (bkD b), x4, x5, x6, x7, x8, x9, x10, x11, x12, x13, .fn f, x15] = .nx [S, K, WL, .d (bkD b), x4, x5, x6, x7, x8, x9, x10, x11, x12, x13, .fn f, y] := by
    have z0 : sizeLine ≥ 0 := Nat.zero_le _
    have z1 : sizeLine ≥ 1 := by decide
    have z3 : sizeLine ≥ 3 := by decide
    have z5 : sizeLine ≥ 5 := by decide
    unfold bads at e
    generalize bkD b = A at *
    generalize getL T36 = G at *
    simp [z0, z1, z3, z5, e, SO.free]
  have q2 : evS (getL T36) SB3 [S, K, WL, .d (bkD b), x4, x5, x6, x7, x8, x9, x10, x11, x12, x13, .fn f, y] = .nx [S, K, WL, .d (bkD b), x4, x5, x6, x7, x8, x9, x10, x11, x12, x13, .fn f, y] := by
    have eb := calls_book (y := .none) (f6_three b) hf
    clear e
    have sl : slcW (bkD b) none (some 3) = some (.d (.tuple [.int b.h, .int b.l, .bool b.hd])) := rfl
    have k1 : kindsL[1]? = some ("InvalidBook +" : Str) := rfl
    have n1 : cmpD .ne (.tuple [.str "InvalidBook +"]) (.tuple [.str "InvalidBook +"]) = some false := by rfl
    have z1 : sizeLine ≥ 1 := by decide
    generalize PyData.tuple [.int b.h, .int b.l, .bool b.hd] = B3 at *
    generalize bkD b = A at *
    generalize getL T36 = G at *
    simp [evW_told, opnd_told, hf, doCall, putOuts, eb, k1, z1, n1, sl]
  exact ⟨y, by rw [evSs_cons, q1, seq_nx, evSs_cons, q2, seq_nx, evSs_nil]⟩
abbrev SRC3 : E := (.tup (.cons (.call 31 (.cons (.var 2) (.cons (.var 3) (.cons (.k (.int 10)) .nil)))) (.cons (.call 31 (.cons (.var 2) (.cons (.var 3) (.cons (.k (.int 60)) .nil)))) (.cons (.tup .nil) .nil))))
abbrev BKk : Ss := (.cons (.asg (.nm 2) (.call 24 (.cons (.var 0) (.cons (.var 1) .nil))))
    (.cons (.asg (.nm 3) (.call 29 (.cons (.var 2) (.cons (.k (.int 5)) (.cons (.k (.int 6)) .nil)))))
    (.cons (.for_ (.nm 4) (.it SRC3) BTx) (.cons (.forf 14 [20, 21, 22, 23] BC) .nil))))
theorem loopK (ns : List Int) (hn : ns.length ≤ 63) : ∀ (xs : List Int) (x1 x2 x3 x4 x5 x6 x7 x8 x9 x10 x11 x12 x13 x14 x15 : W), (∀ k ∈ xs, 0 ≤ k ∧ k ≤ 100) →
    SK (forDo (getL T36) (.nm 1) BKk (xs.map .int) [.d (scriptD ns), x1, x2, x3, x4, x5, x6, x7, x8, x9, x10, x11, x12, x13, x14, x15])
      (fun ρ => ∃ x1 x2 x3 x4 x5 x6 x7 x8 x9 x10 x11 x12 x13 x14 x15 : W, ρ = [.d (scriptD ns), x1, x2, x3, x4, x5, x6, x7, x8, x9, x10, x11, x12, x13, x14, x15]) (fun _ _ => False)
  | [], x1, x2, x3, x4, x5, x6, x7, x8, x9, x10, x11, x12, x13, x14, x15, h => ⟨_, _, _, _, _, _, _, _, _, _, _, _, _, _, _, rfl⟩
  | k :: xs, x1, x2, x3, x4, x5, x6, x7, x8, x9, x10, x11, x12, x13, x14, x15, h => by
    obtain ⟨k0, k1⟩ := h k (.head _)
    obtain ⟨_, _, e26, a, b, ha, hb, rfl, rfl⟩ := (f26 (ns := ns) k0 k1 hn).get
    obtain ⟨_, _, e31, one, a1, b1, w, rfl, rfl, ha1, hb1⟩ := (f31 (hi := 5) (R := 6) ha hb (by decide) (by decide) (by decide) (by decide)).get
    obtain ⟨_, _, e41, u, a2, b2, hu, ul, rfl, rfl, ha2, hb2⟩ := (f34 (m := 10) w ha1 hb1 (by decide) (by decide)).get
    obtain ⟨_, _, e42, v, a3, b3, hv, vl, rfl, rfl, ha3, hb3⟩ := (f34 (m := 60) w ha2 hb2 (by decide) (by decide)).get
    have t24 : getL T36 24 = F24 := rfl
    have t29 : getL T36 29 = F29 := rfl
    have t31 : getL T36 31 = F31 := rfl
    have z0 : sizeLine ≥ 0 := Nat.zero_le _
    have z3 : sizeLine ≥ 3 := by decide
    obtain ⟨y4, y5, y6, y7, y8, y9, y10, y11, y12, et⟩ := textsL w (.d (scriptD ns)) (.d (.int k)) (well a3 b3) x13 x14 x15 [u, v, []] x4 x5 x6 x7 x8 x9 x10 x11 x12 (by
      intro t ht
      simp only [List.mem_cons, List.not_mem_nil, or_false] at ht
      rcases ht with rfl | rfl | rfl
      · exact ⟨hu, by omega⟩
      · exact ⟨hv, by omega⟩
      · exact ⟨fun p m => (nomatch m), by simp⟩)
    have et0 : ([u, v, []] : List (List Pt)).map txD = [txD u, txD v, .tuple []] := rfl
    rw [et0] at et
    have q0 : asgT (getL T36) (.nm 1) (.d (.int k)) [.d (scriptD ns), x1, x2, x3, x4, x5, x6, x7, x8, x9, x10, x11, x12, x13, x14, x15] = .ok () [.d (scriptD ns), .d (.int k), x2, x3, x4, x5, x6, x7, x8, x9, x10, x11, x12, x13, x14, x15] := by simp
    have q1 : evS (getL T36) (.asg (.nm 2) (.call 24 (.cons (.var 0) (.cons (.var 1) .nil)))) [.d (scriptD ns), .d (.int k), x2, x3, x4, x5, x6, x7, x8, x9, x10, x11, x12, x13, x14, x15] = .nx [.d (scriptD ns), .d (.int k), well a b, x3, x4, x5, x6, x7, x8, x9, x10, x11, x12, x13, x14, x15] := by
      generalize scriptD ns = SS at *
      simp [t24, doCall, putOuts, e26]
    have q2 : evS (getL T36) (.asg (.nm 3) (.call 29 (.cons (.var 2) (.cons (.k (.int 5)) (.cons (.k (.int 6)) .nil))))) [.d (scriptD ns), .d (.int k), well a b, x3, x4, x5, x6, x7, x8, x9, x10, x11, x12, x13, x14, x15] = .nx [.d (scriptD ns), .d (.int k), well a1 b1, .d (bkD one), x4, x5, x6, x7, x8, x9, x10, x11, x12, x13, x14, x15] := by
      generalize scriptD ns = SS at *
      generalize bkD one = B at *
      simp [t29, doCall, putOuts, e31]
    have q3 : evS (getL T36) (.for_ (.nm 4) (.it SRC3) BTx) [.d (scriptD ns), .d (.int k), well a1 b1, .d (bkD one), x4, x5, x6, x7, x8, x9, x10, x11, x12, x13, x14, x15] = .nx [.d (scriptD ns), .d (.int k), well a3 b3, .d (bkD one), y4, y5, y6, y7, y8, y9, y10, y11, y12, x13, x14, x15] := by
      have e41 : F31 [well a1 b1, .d (bkD one), .d (.int 10)] = .ok (.d (txD u)) [well a2 b2, .d (bkD one), .d (.int 10)] := e41
      have e42 : F31 [well a2 b2, .d (bkD one), .d (.int 60)] = .ok (.d (txD v)) [well a3 b3, .d (bkD one), .d (.int 60)] := e42
      generalize scriptD ns = SS at *
      generalize bkD one = B at *
      generalize txD u = U at *
      generalize txD v = V at *
      simp [t31, doCall, putOuts, e41, e42, z0, z3, et, SO.free]
    obtain ⟨r20, c20⟩ := callT w (f := 20) (.inl rfl) (.d (scriptD ns)) (.d (.int k)) (well a3 b3) y4 y5 y6 y7 y8 y9 y10 y11 y12 x13 x15
    obtain ⟨r21, c21⟩ := callT w (f := 21) (.inr (.inl rfl)) (.d (scriptD ns)) (.d (.int k)) (well a3 b3) y4 y5 y6 y7 y8 y9 y10 y11 y12 x13 r20
    obtain ⟨r22, c22⟩ := callT w (f := 22) (.inr (.inr (.inl rfl))) (.d (scriptD ns)) (.d (.int k)) (well a3 b3) y4 y5 y6 y7 y8 y9 y10 y11 y12 x13 r21
    obtain ⟨r23, c23⟩ := callT w (f := 23) (.inr (.inr (.inr rfl))) (.d (scriptD ns)) (.d (.int k)) (well a3 b3) y4 y5 y6 y7 y8 y9 y10 y11 y12 x13 r22
    have q9 : evS (getL T36) (.forf 14 [20, 21, 22, 23] BC) [.d (scriptD ns), .d (.int k), well a3 b3, .d (bkD one), y4, y5, y6, y7, y8, y9, y10, y11, y12, x13, x14, x15] = .nx [.d (scriptD ns), .d (.int k), well a3 b3, .d (bkD one), y4, y5, y6, y7, y8, y9, y10, y11, y12, x13, .fn 23, r23] := by
      rw [evS_forf, forfLoop, if_pos (by simp)]
      show (evSs (getL T36) BC [.d (scriptD ns), .d (.int k), well a3 b3, .d (bkD one), y4, y5, y6, y7, y8, y9, y10, y11, y12, x13, .fn 20, x15]).seq _ = _
      rw [c20, seq_nx, forfLoop, if_pos (by simp)]
      show (evSs (getL T36) BC [.d (scriptD ns), .d (.int k), well a3 b3, .d (bkD one), y4, y5, y6, y7, y8, y9, y10, y11, y12, x13, .fn 21, r20]).seq _ = _
      rw [c21, seq_nx, forfLoop, if_pos (by simp)]
      show (evSs (getL T36) BC [.d (scriptD ns), .d (.int k), well a3 b3, .d (bkD one), y4, y5, y6, y7, y8, y9, y10, y11, y12, x13, .fn 22, r21]).seq _ = _
      rw [c22, seq_nx, forfLoop, if_pos (by simp)]
      show (evSs (getL T36) BC [.d (scriptD ns), .d (.int k), well a3 b3, .d (bkD one), y4, y5, y6, y7, y8, y9, y10, y11, y12, x13, .fn 23, r22]).seq _ = _
      rw [c23, seq_nx, forfLoop]
    rw [List.map_cons, forDo_cons, q0, to_ok, evSs_cons, q1, seq_nx, evSs_cons, q2, seq_nx, evSs_cons, q3, seq_nx, evSs_cons, q9, seq_nx, evSs_nil, seq_nx]
    exact loopK ns hn xs _ _ _ _ _ _ _ _ _ _ _ _ _ _ _ (fun q m => h q (.tail _ m))
/-- law -/
theorem f36law (ns : List Int) (hn : ns.length ≤ 63) : ∃ o, F36 [.d (scriptD ns)] = .ok (.d (.bool true)) o := by
  have ln : biW .len [scriptD ns] = some (.d (.int ns.length)) := by simp [scriptD, len_list]
  have mn : biW .min [.int 12, .int ns.length] = some (.d (.int (if (ns.length : Int) < 12 then (ns.length : Int) else 12))) := rfl
  have mxx : biW .max [.int 1, .int (if (ns.length : Int) < 12 then (ns.length : Int) else 12)] = some (.d (.int (if (if (ns.length : Int) < 12 then (ns.length : Int) else 12) > 1 then (if (ns.length : Int) < 12 then (ns.length : Int) else 12) else 1))) := rfl
  generalize hq : (if (ns.length : Int) < 12 then (ns.length : Int) else 12) = q at mn mxx
  have q0 : 0 ≤ q ∧ q ≤ 12 := by subst hq; split <;> omega
  generalize hr : (if q > 1 then q else 1) = r at mxx
  have r0 : 1 ≤ r ∧ r ≤ 12 := by subst hr; split <;> omega
  have rk : rangeOk 0 r = true := by simp [rangeOk]; omega
  have rd : rangeD 0 r = ((List.range r.toNat).map fun (i : Nat) => ((i : Nat) : Int)).map PyData.int := by simp [rangeD]
  have ck : CK (F36 [.d (scriptD ns)]) fun w o => w = .d (.bool true) := by
    refine CK_fn rfl rfl ?_
    have st : evSs (getL T36) fn36.body ([.d (scriptD ns)] ++ List.replicate (fn36.slots - fn36.n) .un) =
        (forDo (getL T36) (.nm 1) BKk (rangeD 0 r) [.d (scriptD ns), .un, .un, .un, .un, .un, .un, .un, .un, .un, .un, .un, .un, .un, .un, .un]).seq fun ρ => evSs (getL T36) (.cons (.ret (.k (.bool true))) .nil) ρ := by
      simp only [fn36]
      rw [evSs_cons]
      have : evS (getL T36) (.for_ (.nm 1) (.r1 (.bi .max (.cons (.k (.int 1)) (.cons (.bi .min (.cons (.k (.int 12)) (.cons (.bi .len (.cons (.var 0) .nil)) .nil))) .nil)))) BKk) ([.d (scriptD ns)] ++ List.replicate (16 - 1) .un) =
          forDo (getL T36) (.nm 1) BKk (rangeD 0 r) [.d (scriptD ns), .un, .un, .un, .un, .un, .un, .un, .un, .un, .un, .un, .un, .un, .un, .un] := by
        simp [ln, mn, mxx, rk]
      rw [this]
    rw [st, SK_seq, rd]
    refine (loopK ns hn _ .un .un .un .un .un .un .un .un .un .un .un .un .un .un .un ?_).imp ?_ (fun _ _ h => h.elim)
    · intro k hk
      obtain ⟨i, hi, rfl⟩ := List.mem_map.mp hk
      rw [List.mem_range] at hi
      omega
    · rintro ρ ⟨x1, x2, x3, x4, x5, x6, x7, x8, x9, x10, x11, x12, x13, x14, x15, rfl⟩
      have : evSs (getL T36) (.cons (.ret (.k (.bool true))) .nil) [.d (scriptD ns), x1, x2, x3, x4, x5, x6, x7, x8, x9, x10, x11, x12, x13, x14, x15] = .rt (.d (.bool true)) [.d (scriptD ns), x1, x2, x3, x4, x5, x6, x7, x8, x9, x10, x11, x12, x13, x14, x15] := by simp
      rw [this, SK_rt]
  obtain ⟨v, o, e, rfl⟩ := ck.get
  exact ⟨o, e⟩
end Pg
end
set_option maxHeartbeats 0 in
theorem PySem.Challenge.cw_facingtexts_k03_texts_that_are_laid_holds : PySem.Challenge.rw_facingtexts_k03_texts_that_are_laid.Holds :=
  Pg.done Pg.f36law
