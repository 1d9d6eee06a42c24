import PyProof.Rows.All
import Wide.All
import OpenK.AllK
import Wide.FinOn
import KE.KStateDown
import HandS.Base
import HandS.Call
import HandS.List
import HandS.Comp
import HandS.Ends
import HandS.Dict
import HandS.Iter
import HandS.More
import HandS.Words
import HandS.WordsList
import HandS.WordsDict
import HandS.WordsExc
import HandS.Defaults
import HandS.TupAny
import HandS.TupLe
import HandS.TupMul
import HandS.Deep
import HandS.Style
import HandS.Conv
import HandS.IsInst
import HandS.DictComp
import HandS.Zip
import HandS.Rev
import HandS.Walk
import KE.SortData
import KE.DataMinMax
import KE.LtData
import KE.SortLaws
import HandS.RaiseMore
import HandS.TupLen
import PyProof.TupleOfSeq
import HandS.Set
import HandS.Strs
import HandS.SetFor
import KE.GoesMore
import HandS.Head0
import HandS.Head1
import HandS.Head2
import HandS.HeadEnd
import HandS.HeadHook1
import HandS.HeadHook2
import PySem.Challenge.RW_fairground_k31_whole_cards_that_win
set_option Elab.async false
set_option linter.all false
set_option linter.all false
set_option autoImplicit false
namespace Py

inductive T where
  | non
  | bl (b : Bool)
  | int (i : Int)
  | str (s : List Nat)
  | tup (xs : List T)
  | lst (xs : List T)
  | dct (kvs : List (T × T))
  | set (xs : List T)
  | cup
  deriving Inhabited

/-- the most items that a list, a tuple may have -/
abbrev lim : Nat := 16777216

mutual
def eqT : T → T → Bool
  | .non, .non => true
  | .bl a, .bl b => a == b
  | .bl a, .int j => (if a then 1 else 0) == j
  | .int i, .bl b => i == (if b then 1 else 0)
  | .int i, .int j => i == j
  | .str x, .str y => x == y
  | .tup xs, .tup ys => eqL xs ys
  | .lst xs, .lst ys => eqL xs ys
  | _, _ => false
def eqL : List T → List T → Bool
  | [], [] => true
  | x :: xs, y :: ys => eqT x y && eqL xs ys
  | _, _ => false
end

mutual
/-- how deep a value is -/
def dep : T → Nat
  | .tup xs => depL xs + 1
  | .lst xs => depL xs + 1
  | _ => 0
def depL : List T → Nat
  | [] => 0
  | x :: xs => max (dep x) (depL xs)
end
mutual
/-- nothing but None, booleans, integers, texts, tuples, lists -/
def plain : T → Bool
  | .tup xs => plainL xs
  | .lst xs => plainL xs
  | .dct _ => false
  | .set _ => false
  | .cup => false
  | .str s => s.all fun n => decide (n < 1114112)
  | _ => true
def plainL : List T → Bool
  | [] => true
  | x :: xs => plain x && plainL xs
end

def ordN : List Nat → List Nat → Ordering
  | [], [] => .eq
  | [], _ :: _ => .lt
  | _ :: _, [] => .gt
  | x :: xs, y :: ys => if x < y then .lt else if y < x then .gt else ordN xs ys
mutual
/-- the order of two values, if they have one -/
def ordT : T → T → Option Ordering
  | .int i, .int j => some (if i < j then .lt else if j < i then .gt else .eq)
  | .str x, .str y => some (ordN x y)
  | .tup xs, .tup ys => ordL xs ys
  | _, _ => none
def ordL : List T → List T → Option Ordering
  | [], [] => some .eq
  | [], _ :: _ => some .lt
  | _ :: _, [] => some .gt
  | x :: xs, y :: ys => match ordL xs ys with
    | some o => if eqT x y then some o else ordT x y
    | none => none
end

mutual
/-- the two can be put in order, place by place -/
def alikeT : T → T → Bool
  | .non, .non => true
  | .bl _, .bl _ => true
  | .int _, .int _ => true
  | .str _, .str _ => true
  | .tup xs, .tup ys => alikeL xs ys
  | .lst xs, .lst ys => alikeL xs ys
  | _, _ => false
def alikeL : List T → List T → Bool
  | x :: xs, y :: ys => alikeT x y && alikeL xs ys
  | _, _ => true
end
mutual
/-- the less of two that are alike -/
def ltT : T → T → Bool
  | .bl a, .bl b => !a && b
  | .int i, .int j => decide (i < j)
  | .str x, .str y => ordN x y == .lt
  | .tup xs, .tup ys => ltL xs ys
  | .lst xs, .lst ys => ltL xs ys
  | _, _ => false
def ltL : List T → List T → Bool
  | [], [] => false
  | [], _ :: _ => true
  | _ :: _, [] => false
  | x :: xs, y :: ys => if eqT x y then ltL xs ys else ltT x y
end
def isTupC : T → Bool
  | .tup (_ :: _) => true
  | _ => false
def isTup : T → Bool
  | .tup _ => true
  | _ => false
def isNone : T → Bool
  | .non => true
  | _ => false
/-- all pairs can be put in order -/
def ordAll (xs : List T) : Bool := plainL xs && decide (depL xs ≤ 60) && (xs.all fun x => xs.all fun y => alikeT x y) && (xs.all isTupC || xs.all fun x => !isNone x && !isTup x)

inductive M (α : Type) where
  | ret (a : α)
  | exc (c : Nat)
  | stuck
  | roll (n : Int) (k : Int → M α)
namespace M
def bind {α β : Type} : M α → (α → M β) → M β
  | .ret a, f => f a
  | .exc c, _ => .exc c
  | .stuck, _ => .stuck
  | .roll n k, f => .roll n fun i => (k i).bind f
/-- what holds behind it, whatever is drawn -/
def wp {α : Type} (E : Nat → Prop) : M α → (α → Prop) → Prop
  | .ret a, Q => Q a
  | .exc c, _ => E c
  | .stuck, _ => False
  | .roll n k, Q => 0 < n ∧ n < 1073741824 ∧ ∀ i : Int, 0 ≤ i → i < n → (k i).wp E Q
/-- no error leaves -/
def shut {α : Type} : M α → M α
  | .ret a => .ret a
  | .exc _ => .stuck
  | .stuck => .stuck
  | .roll n k => .roll n fun i => (k i).shut
end M
instance : Monad M where
  pure := M.ret
  bind := M.bind

@[simp] theorem bind_ret {α β : Type} (a : α) (f : α → M β) : (M.ret a).bind f = f a := rfl
@[simp] theorem bind_exc {α β : Type} (c : Nat) (f : α → M β) : (M.exc c : M α).bind f = .exc c := rfl
@[simp] theorem bind_stuck {α β : Type} (f : α → M β) : (M.stuck : M α).bind f = .stuck := rfl
@[simp] theorem bind_roll {α β : Type} (n : Int) (k : Int → M α) (f : α → M β) : (M.roll n k).bind f = .roll n fun i => (k i).bind f := rfl
theorem bind_assoc {α β γ : Type} (m : M α) (f : α → M β) (g : β → M γ) : (m.bind f).bind g = m.bind fun a => (f a).bind g := by
  induction m with
  | ret a => rfl
  | exc c => rfl
  | stuck => rfl
  | roll n k ih => simp only [bind_roll, ih]
theorem bind_pure {α : Type} (m : M α) : m.bind M.ret = m := by
  induction m with
  | ret a => rfl
  | exc c => rfl
  | stuck => rfl
  | roll n k ih => simp only [bind_roll, ih]
@[simp] theorem wp_ret {α : Type} (E : Nat → Prop) (a : α) (Q : α → Prop) : (M.ret a).wp E Q = Q a := rfl
@[simp] theorem wp_exc {α : Type} (E : Nat → Prop) (c : Nat) (Q : α → Prop) : (M.exc c : M α).wp E Q = E c := rfl
@[simp] theorem wp_stuck {α : Type} (E : Nat → Prop) (Q : α → Prop) : (M.stuck : M α).wp E Q = False := rfl
theorem wp_roll {α : Type} (E : Nat → Prop) (n : Int) (k : Int → M α) (Q : α → Prop) : (M.roll n k).wp E Q = (0 < n ∧ n < 1073741824 ∧ ∀ i : Int, 0 ≤ i → i < n → (k i).wp E Q) := rfl
theorem wp_mono {α : Type} {E E' : Nat → Prop} {m : M α} {Q Q' : α → Prop} (h : m.wp E Q) (hE : ∀ c, E c → E' c) (hQ : ∀ a, Q a → Q' a) : m.wp E' Q' := by
  induction m with
  | ret a => exact hQ a h
  | exc c => exact hE c h
  | stuck => exact h
  | roll n k ih => exact ⟨h.1, h.2.1, fun i h0 h1 => ih i (h.2.2 i h0 h1)⟩
theorem wp_bind {α β : Type} {E : Nat → Prop} {m : M α} {f : α → M β} {Q : β → Prop} : (m.bind f).wp E Q ↔ m.wp E fun a => (f a).wp E Q := by
  induction m with
  | ret a => exact Iff.rfl
  | exc c => exact Iff.rfl
  | stuck => exact Iff.rfl
  | roll n k ih => exact ⟨fun h => ⟨h.1, h.2.1, fun i h0 h1 => (ih i).mp (h.2.2 i h0 h1)⟩, fun h => ⟨h.1, h.2.1, fun i h0 h1 => (ih i).mpr (h.2.2 i h0 h1)⟩⟩
theorem wp_shut {α : Type} {E E' : Nat → Prop} {m : M α} {Q : α → Prop} (h : m.shut.wp E Q) : m.wp E' Q := by
  induction m with
  | ret a => exact h
  | exc c => exact h.elim
  | stuck => exact h
  | roll n k ih => exact ⟨h.1, h.2.1, fun i h0 h1 => ih i (h.2.2 i h0 h1)⟩

inductive Bop where
  | add | sub | mul | fdiv | mod | pow
  deriving DecidableEq
inductive Cop where
  | eq | ne | lt | le | gt | ge | isin | nin | is | isnt
  deriving DecidableEq
/-- built-in calls, by their values -/
inductive Bi where
  | len | abs | int | str | sum | min | max | min2 | max2 | sorted | tuple | list | all | any
  | isint | isbool | istup | isstr | islst
  deriving DecidableEq
inductive Tgt where
  | n (i : Nat)
  | nil
  | cons (a : Tgt) (r : Tgt)
  deriving DecidableEq
/-- expressions; a list of them is nil, cons -/
inductive E where
  | var (i : Nat)
  | con (t : T)
  | nil
  | cons (a r : E)
  | tup (es : E)
  | lst (es : E)
  | dnil
  | dcons (k v r : E)
  | bin (o : Bop) (a b : E)
  | neg (a : E)
  | not (a : E)
  | and (a b : E)
  | or (a b : E)
  | cmp (o : Cop) (a b : E)
  | chain (o p : Cop) (a b c : E)
  | ite (c a b : E)
  | call (f : Nat) (es : E)
  | roll (c n : E)
  | bi (b : Bi) (es : E)
  | get1 (d k : E)
  | get2 (d k x : E)
  | index (a x : E)
  | count (a x : E)
  | rngs (t : Bool) (a : E)
  | rng1 (a : E)
  | rng2 (a b : E)
  | rng3 (a b c : E)
  | zip2 (a b : E)
  | enum (a : E)
  | idx (a i : E)
  | slc (a lo hi : E)
  | rev (a : E)
  | sset (a : E)
  | slen (a : E)
  | rngd (a b : E)
  | lc (x : Tgt) (it c : E) (own : List Nat) (el : E)
  | lc2 (x : Tgt) (it c : E) (x1 : Tgt) (own1 : List Nat) (it1 c1 : E) (own : List Nat) (el : E)
  | dc (x : Tgt) (it c : E) (own : List Nat) (k v : E)
  | never
inductive S where
  | skip
  | seq (a b : S)
  | asg (i : Nat) (e : E)
  | asgT (x : Tgt) (e : E)
  | par (xs : List Nat) (es : E)
  | seti (i : Nat) (k e : E)
  | aug (i : Nat) (e : E)
  | ext (i : Nat) (e : E)
  | augi (i : Nat) (k : E) (e : E)
  | app (i : Nat) (e : E)
  | upd (i : Nat) (e : E)
  | popT (x : Tgt) (i : Nat)
  | appPop (j i : Nat) (k : E)
  | expr (e : E)
  | ite (c : E) (a b : S)
  | whl (c : E) (b : S)
  | for_ (x : Tgt) (it : E) (b : S)
  | ret (e : E)
  | retN
  | brk
  | raise (c : Nat)
  | never

abbrev Env := List (Option T)
def getv : Env → Nat → M T
  | [], _ => .stuck
  | some t :: _, 0 => .ret t
  | none :: _, 0 => .stuck
  | _ :: r, n + 1 => getv r n
def setv : Env → Nat → T → Env
  | [], _, _ => []
  | _ :: r, 0, t => some t :: r
  | x :: r, n + 1, t => x :: setv r n t
def wipe1 : Env → Nat → Env
  | [], _ => []
  | _ :: r, 0 => none :: r
  | x :: r, n + 1 => x :: wipe1 r n
def wipev (env : Env) : List Nat → Env
  | [] => env
  | i :: is => wipe1 (wipev env is) i

def asB : T → M Bool
  | .bl b => .ret b
  | _ => .stuck
def asI : T → M Int
  | .int i => .ret i
  | _ => .stuck
def mkTup (xs : List T) : M T := if xs.length ≤ lim then .ret (.tup xs) else .stuck
def mkLst (xs : List T) : M T := if xs.length ≤ lim then .ret (.lst xs) else .stuck
def okMul (i j : Int) : Bool := (decide (-18446744073709551616 < i) && decide (i < 18446744073709551616)) || (decide (-18446744073709551616 < j) && decide (j < 18446744073709551616))
def opM : Bop → T → T → M T
  | .add, .int i, .int j => .ret (.int (i + j))
  | .add, .tup xs, .tup ys => mkTup (xs ++ ys)
  | .add, .lst xs, .lst ys => mkLst (xs ++ ys)
  | .add, .str x, .str y => if x.length + y.length ≤ lim then .ret (.str (x ++ y)) else .stuck
  | .sub, .int i, .int j => .ret (.int (i - j))
  | .mul, .int i, .int j => if okMul i j then .ret (.int (i * j)) else .stuck
  | .mul, .tup xs, .int k => if k = 1 then .ret (.tup xs) else if k = 0 then .ret (.tup []) else if 2 ≤ k ∧ k ≤ 1000 ∧ xs.length ≤ 1000 ∧ xs ≠ [] then .ret (.tup (List.replicate k.toNat xs).flatten) else .stuck
  | .mul, .lst xs, .int k => if -(2 ^ 63) ≤ k ∧ k < 2 ^ 63 ∧ xs.length * k.toNat ≤ lim then .ret (.lst (List.replicate k.toNat xs).flatten) else .stuck
  | .fdiv, .int i, .int j => if 0 < j ∧ j < 1073741824 then .ret (.int (i / j)) else .stuck
  | .mod, .int i, .int j => if 0 < j then .ret (.int (i % j)) else .stuck
  | .pow, .int i, .int j => if 0 ≤ j ∧ j ≤ 1000000 ∧ i.natAbs < 18446744073709551616 then .ret (.int (i ^ j.toNat)) else .stuck
  | _, _, _ => .stuck
/-- two values that == may be asked of -/
def eqOk (a b : T) : Bool := plain a && plain b && decide (min (dep a) (dep b) ≤ 60)
def eqM (a b : T) : M Bool := if eqOk a b then .ret (eqT a b) else .stuck
def ordM (a b : T) : M Ordering := if eqOk a b then (match ordT a b with | some o => .ret o | none => .stuck) else .stuck
/-- keys of dicts: integers, texts, and tuples of these -/
def keyA : T → Bool
  | .int _ => true
  | .str _ => true
  | _ => false
def keyOk : T → Bool
  | .int _ => true
  | .str _ => true
  | .tup xs => xs.all keyA
  | _ => false
/-- k can be looked for among these keys: all are tuples, or none is -/
def fits (kvs : List (T × T)) (k : T) : Bool := keyOk k && kvs.all fun p => keyA p.1 == keyA k
def dget (kvs : List (T × T)) (k : T) : Option T := (kvs.find? fun p => eqT p.1 k).map (·.2)
def dput (kvs : List (T × T)) (k v : T) : List (T × T) := if (kvs.any fun p => eqT p.1 k) = true then kvs.map fun p => if eqT p.1 k then (p.1, v) else p else kvs ++ [(k, v)]
def ddel (kvs : List (T × T)) (k : T) : List (T × T) := kvs.filter fun p => !eqT p.1 k
def inM (x c : T) : M Bool :=
  match c with
  | .tup xs => if plainL xs && plain x && decide (min (depL xs) (dep x) ≤ 60) then .ret (xs.any fun y => eqT y x) else .stuck
  | .lst xs => if plainL xs && plain x && decide (min (depL xs) (dep x) ≤ 60) then .ret (xs.any fun y => eqT y x) else .stuck
  | .dct kvs => if fits kvs x then .ret (dget kvs x).isSome else .stuck
  | _ => .stuck
def isNon : T → Bool
  | .non => true
  | _ => false
def isM (a b : T) : M Bool :=
  match b with
  | .non => .ret (isNon a)
  | .bl y => (match a with | .bl x => .ret (x == y) | _ => .stuck)
  | _ => .stuck
def cmpM : Cop → T → T → M T
  | .eq, a, b => (eqM a b).bind fun r => .ret (.bl r)
  | .ne, a, b => (eqM a b).bind fun r => .ret (.bl (!r))
  | .lt, a, b => (ordM a b).bind fun o => .ret (.bl (o == .lt))
  | .le, a, b => (ordM a b).bind fun o => .ret (.bl (o != .gt))
  | .gt, a, b => (ordM a b).bind fun o => .ret (.bl (o == .gt))
  | .ge, a, b => (ordM a b).bind fun o => .ret (.bl (o != .lt))
  | .isin, a, b => (inM a b).bind fun r => .ret (.bl r)
  | .nin, a, b => (inM a b).bind fun r => .ret (.bl (!r))
  | .is, a, b => (isM a b).bind fun r => .ret (.bl r)
  | .isnt, a, b => (isM a b).bind fun r => .ret (.bl (!r))
/-- the items that are walked -/
def itemsM : T → M (List T)
  | .tup xs => .ret xs
  | .lst xs => .ret xs
  | .dct kvs => .ret (kvs.map (·.1))
  | _ => .stuck
/-- .. of lists and tuples alone -/
def itemsS : T → M (List T)
  | .tup xs => .ret xs
  | .lst xs => .ret xs
  | _ => .stuck
def sumL : List T → Option Int
  | [] => some 0
  | .int i :: r => (sumL r).map (i + ·)
  | _ :: _ => none
def bools : List T → Option (List Bool)
  | [] => some []
  | .bl b :: r => (bools r).map (b :: ·)
  | _ :: _ => none
/-- the first of the least -/
def minL (m : T) (xs : List T) : T := xs.foldl (fun a y => if ltT y a then y else a) m
def maxL (m : T) (xs : List T) : T := xs.foldl (fun a y => if ltT a y then y else a) m
/-- all can be compared with one another -/
def cmpAll (xs : List T) : Bool := plainL xs && decide (depL xs ≤ 60) && (xs.all fun x => xs.all fun y => alikeT x y) && xs.all fun x => !isNone x
/-- among those in order: ahead of all that are not less -/
def insT (x : T) : List T → List T
  | [] => [x]
  | y :: r => if ltT y x then y :: insT x r else x :: y :: r
/-- sorted, alike ones as they stand -/
def sortT : List T → List T
  | [] => []
  | x :: xs => insT x (sortT xs)
def ixI (n : Nat) (i : Int) : Option Nat := if 0 ≤ i then (if i < n then some i.toNat else none) else if -(n : Int) ≤ i then some (i + n).toNat else none
def atT (xs : List T) (i : Int) : M T :=
  match ixI xs.length i with
  | some j => (match xs[j]? with | some x => .ret x | none => .stuck)
  | none => .stuck
def idxM (a i : T) : M T :=
  match a, i with
  | .tup xs, .int k => atT xs k
  | .lst xs, .int k => atT xs k
  | .dct kvs, k => if fits kvs k then (match dget kvs k with | some v => .ret v | none => .stuck) else .stuck
  | _, _ => .stuck
def slIx (n d : Nat) : Option Int → Nat
  | none => d
  | some v => if v < 0 then (v + (n : Int)).toNat else min v.toNat n
def cutT (xs : List T) (lo hi : Option Int) : List T := (xs.drop (slIx xs.length 0 lo)).take (slIx xs.length xs.length hi - slIx xs.length 0 lo)
def slcM (a : T) (lo hi : Option Int) : M T :=
  match a with
  | .tup xs => .ret (.tup (cutT xs lo hi))
  | .lst xs => .ret (.lst (cutT xs lo hi))
  | _ => .stuck
def isNonE : E → Bool
  | .con .non => true
  | _ => false
/-- a slice's part: left out, or an integer -/
def partM (b : Bool) (m : M T) : M (Option Int) := if b then .ret none else m.bind fun t => (asI t).bind fun i => .ret (some i)
def revM : T → M T
  | .tup xs => .ret (.tup xs.reverse)
  | .lst xs => .ret (.lst xs.reverse)
  | _ => .stuck
def rngOk (a : Int) : Bool := decide (-4611686018427387904 ≤ a) && decide (a < 4611686018427387904)
def rngM (a b : Int) : M T := if rngOk a && rngOk b && decide ((b - a).toNat ≤ lim) then .ret (.lst ((List.range (b - a).toNat).map fun i => .int (a + (i : Nat)))) else .stuck
/-- range(a, b, -1) as a tuple -/
def rngdM (a b : Int) : M T := if rngOk a && rngOk b && decide ((a - b).toNat ≤ lim) then .ret (.tup ((List.range (a - b).toNat).map fun i => .int (a - (i : Nat)))) else .stuck
def zipL : List T → List T → List T
  | x :: xs, y :: ys => .tup [x, y] :: zipL xs ys
  | _, _ => []
def enumL (n : Nat) : List T → List T
  | [] => []
  | x :: xs => .tup [.int n, x] :: enumL (n + 1) xs
def zipM : T → T → M (List T)
  | .lst xs, .lst ys => .ret (zipL xs ys)
  | .tup xs, .tup ys => .ret (zipL xs ys)
  | _, _ => .stuck
def enumM : T → M (List T)
  | .lst xs => .ret (enumL 0 xs)
  | .tup xs => .ret (enumL 0 xs)
  | _ => .stuck
def dictOf : List T → List (T × T) → Option (List (T × T))
  | [], acc => some acc
  | .tup [k, v] :: r, acc => if keyA k then dictOf r (dput acc k v) else none
  | _ :: _, _ => none
def firstEq (x : T) (n : Nat) : List T → Option Nat
  | [] => none
  | y :: r => if eqT y x then some n else firstEq x (n + 1) r
def min2M (a b : T) : M T :=
  match a, b with
  | .int i, .int j => .ret (.int (if j < i then j else i))
  | .tup xs, .tup ys => if cmpAll [.tup xs, .tup ys] then .ret (minL (.tup xs) [.tup ys]) else .stuck
  | _, _ => .stuck
def max2M (a b : T) : M T :=
  match a, b with
  | .int i, .int j => .ret (.int (if j > i then j else i))
  | .tup xs, .tup ys => if cmpAll [.tup xs, .tup ys] then .ret (maxL (.tup xs) [.tup ys]) else .stuck
  | _, _ => .stuck
def allI : List T → Option (List Int)
  | [] => some []
  | .int i :: r => (allI r).map (i :: ·)
  | _ :: _ => none
/-- among those that rise, once -/
def insU (x : Int) : List Int → List Int
  | [] => [x]
  | y :: r => if x < y then x :: y :: r else if x = y then y :: r else y :: insU x r
def sortU : List Int → List Int
  | [] => []
  | x :: xs => insU x (sortU xs)
/-- sorted(set(a)) of a list of integers -/
def ssetM : T → M T
  | .lst xs => (match allI xs with
    | some zs => if zs.length ≤ 1000 ∧ (sortU zs).length < 64 then .ret (.lst ((sortU zs).map .int)) else .stuck
    | none => .stuck)
  | _ => .stuck
/-- len(set(a)) of integers -/
def slenM (a : T) : M T := (itemsS a).bind fun xs => match allI xs with
  | some zs => if zs.length ≤ 1000 then .ret (.int (sortU zs).length) else .stuck
  | none => .stuck
def firstI (x : Int) : List Int → Option Nat
  | [] => none
  | y :: r => if y = x then some 0 else (firstI x r).map (· + 1)
/-- a.index(x), a.count(x): lists of integers -/
def indexM : T → T → M T
  | .lst xs, .int k => (match allI xs with
    | some zs => (match firstI k zs with | some n => .ret (.int (n : Nat)) | none => .stuck)
    | none => .stuck)
  | _, _ => .stuck
def countM : T → T → M T
  | .lst xs, .int k => (match allI xs with
    | some zs => .ret (.int (zs.count k : Nat))
    | none => .stuck)
  | _, _ => .stuck
def biM : Bi → List T → M T
  | .len, [.tup xs] => .ret (.int xs.length)
  | .len, [.lst xs] => .ret (.int xs.length)
  | .len, [.dct xs] => .ret (.int xs.length)
  | .len, [.str xs] => if xs.length ≤ lim then .ret (.int xs.length) else .stuck
  | .abs, [.int i] => .ret (.int (if i < 0 then -i else i))
  | .int, [.int i] => .ret (.int i)
  | .int, [.bl b] => .ret (.int (if b then 1 else 0))
  | .str, [.str s] => .ret (.str s)
  | .sum, [.lst xs] => (match sumL xs with | some n => .ret (.int n) | none => .stuck)
  | .sum, [.tup xs] => (match sumL xs with | some n => .ret (.int n) | none => .stuck)
  | .all, [.lst xs] => (match bools xs with | some bs => .ret (.bl (bs.all id)) | none => .stuck)
  | .any, [.lst xs] => (match bools xs with | some bs => .ret (.bl (bs.any id)) | none => .stuck)
  | .min2, [a, b] => min2M a b
  | .max2, [a, b] => max2M a b
  | .min, [a] => (itemsS a).bind fun xs => (match xs with | x :: r => if cmpAll (x :: r) then .ret (minL x r) else .stuck | [] => .stuck)
  | .max, [a] => (itemsS a).bind fun xs => (match xs with | x :: r => if cmpAll (x :: r) then .ret (maxL x r) else .stuck | [] => .stuck)
  | .sorted, [.lst xs] => if ordAll xs then .ret (.lst (sortT xs)) else .stuck
  | .sorted, [.tup xs] => if ordAll xs then .ret (.lst (sortT xs)) else .stuck
  | .sorted, [.dct kvs] => if ordAll (kvs.map (·.1)) then .ret (.lst (sortT (kvs.map (·.1)))) else .stuck
  | .tuple, [a] => (itemsS a).bind fun xs => .ret (.tup xs)
  | .list, [a] => (itemsM a).bind fun xs => .ret (.lst xs)
  | .isint, [a] => (match a with | .int _ => .ret (.bl true) | .bl _ => .ret (.bl true) | .dct _ => .stuck | .set _ => .stuck | .cup => .stuck | _ => .ret (.bl false))
  | .isbool, [a] => (match a with | .bl _ => .ret (.bl true) | .dct _ => .stuck | .set _ => .stuck | .cup => .stuck | _ => .ret (.bl false))
  | .istup, [a] => (match a with | .tup _ => .ret (.bl true) | .dct _ => .stuck | .set _ => .stuck | .cup => .stuck | _ => .ret (.bl false))
  | .isstr, [a] => (match a with | .str _ => .ret (.bl true) | .dct _ => .stuck | .set _ => .stuck | .cup => .stuck | _ => .ret (.bl false))
  | .islst, [a] => (match a with | .lst _ => .ret (.bl true) | .dct _ => .stuck | .set _ => .stuck | .cup => .stuck | _ => .ret (.bl false))
  | _, _ => .stuck

def get1M : T → T → M T
  | .dct kvs, k => if fits kvs k then .ret ((dget kvs k).getD .non) else .stuck
  | _, _ => .stuck
def get2M : T → T → T → M T
  | .dct kvs, k, d => if fits kvs k then .ret ((dget kvs k).getD d) else .stuck
  | _, _, _ => .stuck
def bindT : Tgt → T → Env → M Env
  | .n i, t, env => .ret (setv env i t)
  | .nil, .tup xs, env => (match xs with | [] => .ret env | _ => .stuck)
  | .cons a r, .tup (x :: xs), env => (bindT a x env).bind fun env => bindT r (.tup xs) env
  | _, _, _ => .stuck

/-- a comprehension's turns: tgt binds, c tests, el makes; env0 the block's names wiped -/
def compL {α : Type} (tgt : T → Env → M Env) (c : Env → M T) (el : Env → α → M α) (env0 : Env) : List T → α → M α
  | [], acc => .ret acc
  | x :: r, acc => (tgt x env0).bind fun e1 => (c e1).bind fun b => (asB b).bind fun b =>
      (if b then el e1 acc else .ret acc).bind fun acc => compL tgt c el env0 r acc
def push (x : T) (acc : List T) : M (List T) := if acc.length < lim then .ret (acc ++ [x]) else .stuck

/-- a block's end -/
inductive R where
  | nx (e : Env)
  | rt (t : T)
  | bk (e : Env)
def forL (tgt : T → Env → M Env) (body : Env → M R) : List T → Env → M R
  | [], env => .ret (.nx env)
  | x :: r, env => (tgt x env).bind fun env => (body env).bind fun f => match f with
    | .nx e => forL tgt body r e
    | .bk e => .ret (.nx e)
    | .rt t => .ret (.rt t)
def whileL (c : Env → M T) (body : Env → M R) : Nat → Env → M R
  | 0, _ => .stuck
  | n + 1, env => (c env).bind fun b => (asB b).bind fun b => if b then (body env).bind fun f => (match f with
      | .nx e => whileL c body n e
      | .bk e => .ret (.nx e)
      | .rt t => .ret (.rt t)) else .ret (.nx env)

/-- what a def gives (by its number); how often a while may turn -/
structure Cx where
  call : Nat → List T → M T
  W : Nat
def consT (x y : T) : M T := match y with
  | .tup xs => .ret (.tup (x :: xs))
  | _ => .stuck
def argsOf (y : T) : M (List T) := match y with
  | .tup xs => .ret xs
  | _ => .stuck
def den (C : Cx) : E → Env → M T
  | .var i, env => getv env i
  | .con t, _ => .ret t
  | .nil, _ => .ret (.tup [])
  | .cons a r, env => (den C a env).bind fun x => (den C r env).bind fun y => consT x y
  | .tup es, env => (den C es env).bind fun y => (argsOf y).bind mkTup
  | .lst es, env => (den C es env).bind fun y => (argsOf y).bind mkLst
  | .dnil, _ => .ret (.dct [])
  | .dcons k v r, env => (den C k env).bind fun k => (den C v env).bind fun v => (den C r env).bind fun d => (match d with
      | .dct kvs => if keyA k && (dget kvs k).isNone && (kvs.all fun p => keyA p.1) then .ret (.dct ((k, v) :: kvs)) else .stuck
      | _ => .stuck)
  | .bin o a b, env => (den C a env).bind fun x => (den C b env).bind fun y => opM o x y
  | .neg a, env => (den C a env).bind fun x => (asI x).bind fun i => .ret (.int (-i))
  | .not a, env => (den C a env).bind fun x => (asB x).bind fun b => .ret (.bl (!b))
  | .and a b, env => (den C a env).bind fun x => (asB x).bind fun c => if c then (den C b env).bind fun y => (asB y).bind fun c => .ret (.bl c) else .ret (.bl false)
  | .or a b, env => (den C a env).bind fun x => (asB x).bind fun c => if c then .ret (.bl true) else (den C b env).bind fun y => (asB y).bind fun c => .ret (.bl c)
  | .cmp o a b, env => (den C a env).bind fun x => (den C b env).bind fun y => cmpM o x y
  | .chain o p a b c, env => (den C a env).bind fun x => (den C b env).bind fun y => (cmpM o x y).bind fun r => (asB r).bind fun r => if r then (den C c env).bind fun z => cmpM p y z else .ret (.bl false)
  | .ite c a b, env => (den C c env).bind fun x => (asB x).bind fun r => if r then den C a env else den C b env
  | .call f es, env => (den C es env).bind fun y => (argsOf y).bind fun ts => C.call f ts
  | .roll c n, env => (den C c env).bind fun x => (den C n env).bind fun y => (match x with
      | .cup => (asI y).bind fun n => .roll n fun i => .ret (.int i)
      | _ => .stuck)
  | .bi b es, env => (den C es env).bind fun y => (argsOf y).bind fun ts => biM b ts
  | .get1 d k, env => (den C d env).bind fun x => (den C k env).bind fun y => get1M x y
  | .get2 d k x, env => (den C d env).bind fun a => (den C k env).bind fun y => (den C x env).bind fun z => get2M a y z
  | .index a x, env => (den C a env).bind fun a => (den C x env).bind fun y => indexM a y
  | .count a x, env => (den C a env).bind fun a => (den C x env).bind fun y => countM a y
  | .rngs t a, env => (den C a env).bind fun x => (itemsS x).bind fun xs => if t then .ret (.tup xs) else .ret (.lst xs)
  | .rng1 a, env => (den C a env).bind fun x => (asI x).bind fun n => rngM 0 n
  | .rng2 a b, env => (den C a env).bind fun x => (den C b env).bind fun y => (asI x).bind fun i => (asI y).bind fun j => rngM i j
  | .rng3 _ _ _, _ => .stuck
  | .zip2 a b, env => (den C a env).bind fun x => (den C b env).bind fun y => (zipM x y).bind fun zs => .ret (.lst zs)
  | .enum a, env => (den C a env).bind fun x => (enumM x).bind fun zs => .ret (.lst zs)
  | .idx a i, env => (den C a env).bind fun x => (den C i env).bind fun y => idxM x y
  | .slc a lo hi, env => (den C a env).bind fun x => (partM (isNonE lo) (den C lo env)).bind fun l => (partM (isNonE hi) (den C hi env)).bind fun h => slcM x l h
  | .rev a, env => (den C a env).bind revM
  | .sset a, env => (den C a env).bind ssetM
  | .slen a, env => (den C a env).bind slenM
  | .rngd a b, env => (den C a env).bind fun x => (den C b env).bind fun y => (asI x).bind fun i => (asI y).bind fun j => rngdM i j
  | .lc x it c own el, env => (den C it env).bind fun t => (itemsS t).bind fun xs =>
      (compL (bindT x) (den C c) (fun e acc => (den C el e).bind fun v => push v acc) (wipev env own) xs []).shut.bind fun acc => .ret (.lst acc)
  | .lc2 x it c x1 own1 it1 c1 own el, env => (den C it env).bind fun t => (itemsS t).bind fun xs =>
      (compL (bindT x) (den C c) (fun e acc => (den C it1 e).bind fun t1 => (itemsS t1).bind fun ys =>
          compL (bindT x1) (den C c1) (fun e acc => (den C el e).bind fun v => push v acc) (wipev e own1) ys acc) (wipev env own) xs []).shut.bind fun acc => .ret (.lst acc)
  | .dc x it c own k v, env => (den C it env).bind fun t => (itemsS t).bind fun xs =>
      (compL (bindT x) (den C c) (fun e acc => (den C k e).bind fun kv => (den C v e).bind fun vv => if keyA kv && decide (acc.length < lim) then .ret (dput acc kv vv) else .stuck) (wipev env own) xs []).shut.bind fun acc => .ret (.dct acc)
  | .never, _ => .stuck
def setI (c k v : T) : M T :=
  match c, k with
  | .lst xs, .int i => (match ixI xs.length i with | some j => .ret (.lst (xs.set j v)) | none => .stuck)
  | .dct kvs, k => if fits kvs k && decide (kvs.length < lim) then .ret (.dct (dput kvs k v)) else .stuck
  | _, _ => .stuck
def updM (c d : T) : M T :=
  match c, d with
  | .dct kvs, .dct more => if (kvs.all fun p => keyA p.1) && (more.all fun p => keyA p.1) && decide (kvs.length + more.length < lim) then .ret (.dct (more.foldl (fun acc p => dput acc p.1 p.2) kvs)) else .stuck
  | _, _ => .stuck
def appM (c x : T) : M T := match c with
  | .lst xs => if xs.length < lim then .ret (.lst (xs ++ [x])) else .stuck
  | _ => .stuck
def popM (c : T) : M (T × T) := match c with
  | .lst xs => (match xs[xs.length - 1]? with | some x => .ret (x, .lst xs.dropLast) | none => .stuck)
  | _ => .stuck
def popKM (c k : T) : M (T × T) := match c, k with
  | .lst xs, .int i => if xs.length ≤ lim then (match ixI xs.length i with | some j => (match xs[j]? with | some x => .ret (x, .lst (xs.eraseIdx j)) | none => .stuck) | none => .stuck) else .stuck
  | _, _ => .stuck
/-- x += y: numbers -/
def augM : T → T → M T
  | .int i, .int j => .ret (.int (i + j))
  | _, _ => .stuck
/-- x += y: lists -/
def extM : T → T → M T
  | .lst xs, .lst ys => mkLst (xs ++ ys)
  | _, _ => .stuck
def putAll : List Nat → List T → Env → M Env
  | [], [], env => .ret env
  | i :: is, t :: ts, env => if i < env.length then putAll is ts (setv env i t) else .stuck
  | _, _, _ => .stuck
def exec (C : Cx) : S → Env → M R
  | .skip, env => .ret (.nx env)
  | .seq a b, env => (exec C a env).bind fun f => (match f with
      | .nx e => exec C b e
      | .rt t => .ret (.rt t)
      | .bk e => .ret (.bk e))
  | .asg i e, env => (den C e env).bind fun t => .ret (.nx (setv env i t))
  | .asgT x e, env => (den C e env).bind fun t => (bindT x t env).bind fun env => .ret (.nx env)
  | .par xs es, env => (den C es env).bind fun y => (argsOf y).bind fun ts => (putAll xs ts env).bind fun env => .ret (.nx env)
  | .seti i k e, env => (den C e env).bind fun v => (getv env i).bind fun c => (den C k env).bind fun k => (setI c k v).bind fun c => .ret (.nx (setv env i c))
  | .aug i e, env => (getv env i).bind fun c => (den C e env).bind fun v => (augM c v).bind fun c => .ret (.nx (setv env i c))
  | .ext i e, env => (getv env i).bind fun c => (den C e env).bind fun v => (extM c v).bind fun c => .ret (.nx (setv env i c))
  | .augi i k e, env => (getv env i).bind fun c => (den C k env).bind fun k => (idxM c k).bind fun old => (den C e env).bind fun v => (augM old v).bind fun v => (setI c k v).bind fun c => .ret (.nx (setv env i c))
  | .app i e, env => (getv env i).bind fun c => (den C e env).bind fun v => (appM c v).bind fun c => .ret (.nx (setv env i c))
  | .upd i e, env => (getv env i).bind fun c => (den C e env).bind fun v => (updM c v).bind fun c => .ret (.nx (setv env i c))
  | .popT x i, env => (getv env i).bind fun c => (popM c).bind fun p => (bindT x p.1 (setv env i p.2)).bind fun env => .ret (.nx env)
  | .appPop j i k, env => (getv env j).bind fun d => (getv env i).bind fun c => (den C k env).bind fun k => (popKM c k).bind fun p => (appM d p.1).bind fun d => .ret (.nx (setv (setv env i p.2) j d))
  | .expr e, env => (den C e env).bind fun _ => .ret (.nx env)
  | .ite c a b, env => (den C c env).bind fun x => (asB x).bind fun r => if r then exec C a env else exec C b env
  | .whl c b, env => whileL (den C c) (exec C b) C.W env
  | .for_ x it b, env => (den C it env).bind fun t => (itemsS t).bind fun xs => forL (bindT x) (exec C b) xs env
  | .ret e, env => (den C e env).bind fun t => .ret (.rt t)
  | .retN, _ => .ret (.rt .non)
  | .brk, env => .ret (.bk env)
  | .raise c, _ => .exc c
  | .never, _ => .stuck

structure Fn where
  ps : Nat
  n : Nat
  body : S
def startv (n : Nat) (ts : List T) : Env := ts.map some ++ List.replicate (n - ts.length) none
def run (C : Cx) (f : Fn) (ts : List T) : M T :=
  if ts.length = f.ps then (exec C f.body (startv f.n ts)).bind fun r => (match r with
    | .nx _ => .ret .non
    | .rt t => .ret t
    | .bk _ => .stuck) else .stuck
/-- the program's defs, called n deep at most -/
def callP (P : Nat → Option Fn) (W : Nat) : Nat → Nat → List T → M T
  | 0, _, _ => .stuck
  | n + 1, f, ts => match P f with
    | some F => run ⟨callP P W n, W⟩ F ts
    | none => .stuck
end Py

set_option Elab.async false
set_option linter.all false
set_option maxRecDepth 100000
set_option maxHeartbeats 2000000
namespace Snd
open PySem PySem.Spec PyProof.Rows L2
abbrev Tr := Py.T
abbrev Bn := Addr → Prop

def kT : Key → Tr
  | .inl i => .int i
  | .inr s => .str s.cps.toList
def kTs (k : List Key) : Tr := .tup (k.map kT)
/-- what stands at a, or stands there locked -/
def RdD (H : Hp) (a : Addr) (u : HO) (ne : Prop) : Prop := H a = some u ∨ (ne ∧ ∃ o, H a = some (.frz o u))
theorem RdD.rd {H : Hp} {a : Addr} {u : HO} {ne : Prop} (r : RdD H a u ne) : Rd H a u := by
  rcases r with r | ⟨_, r⟩
  · exact .inl r
  · exact .inr r
mutual
/-- v stands for the tree; its lists and dicts are none of B's, nothing is the cup at c -/
def Rep (K : PySem.W.Frag) (H : Hp) (B : Bn) (c : Addr) : Tr → V → Prop
  | .non, v => v = .non
  | .bl b, v => v = .bl b
  | .int i, v => v = .int i
  | .str s, v => v = .str ⟨s.toArray⟩
  | .tup xs, v => ∃ a vs, v = .ref a ∧ a ≠ c ∧ H a = some (.tup vs) ∧ RepL K H B c xs vs
  | .lst xs, v => ∃ a vs, v = .ref a ∧ a ≠ c ∧ ¬ B a ∧ H a = some (.lst vs) ∧ RepL K H B c xs vs
  | .dct kvs, v => ∃ a vs, v = .ref a ∧ a ≠ c ∧ ¬ B a ∧ RepV K H B c kvs vs ∧
      ((∃ ks : List Key, ks.length = vs.length ∧ kvs.map (·.1) = ks.map kT ∧ RdD H a (.dK (ks.zip vs)) (vs ≠ [])) ∨ ∃ ks : List (List Key), ks.length = vs.length ∧ kvs.map (·.1) = ks.map kTs ∧ RdD H a (.dT (ks.zip vs)) (vs ≠ []))
  | .set _, _ => False
  | .cup, v => v = .ref c
def RepL (K : PySem.W.Frag) (H : Hp) (B : Bn) (c : Addr) : List Tr → List V → Prop
  | [], vs => vs = []
  | x :: xs, vs => ∃ v r, vs = v :: r ∧ Rep K H B c x v ∧ RepL K H B c xs r
def RepV (K : PySem.W.Frag) (H : Hp) (B : Bn) (c : Addr) : List (Tr × Tr) → List V → Prop
  | [], vs => vs = []
  | (_, x) :: xs, vs => ∃ v r, vs = v :: r ∧ Rep K H B c x v ∧ RepV K H B c xs r
end
/-- the same, but the object at the top may be one of B's -/
def RepW (K : PySem.W.Frag) (H : Hp) (B : Bn) (c : Addr) (t : Tr) (v : V) : Prop :=
  match t with
  | .lst xs => ∃ a vs, v = .ref a ∧ a ≠ c ∧ H a = some (.lst vs) ∧ RepL K H B c xs vs
  | .dct kvs => ∃ a vs, v = .ref a ∧ a ≠ c ∧ RepV K H B c kvs vs ∧
      ((∃ ks : List Key, ks.length = vs.length ∧ kvs.map (·.1) = ks.map kT ∧ RdD H a (.dK (ks.zip vs)) (vs ≠ [])) ∨ ∃ ks : List (List Key), ks.length = vs.length ∧ kvs.map (·.1) = ks.map kTs ∧ RdD H a (.dT (ks.zip vs)) (vs ≠ []))
  | t => Rep K H B c t v

/-- all that was tracked is as it was, but the cup -/
def Ext (c : Addr) (H H' : Hp) : Prop := ∀ a o, H a = some o → a ≠ c → H' a = some o
theorem Ext.refl (c : Addr) (H : Hp) : Ext c H H := fun _ _ e _ => e
theorem Ext.trans {c : Addr} {H H1 H2 : Hp} (x : Ext c H H1) (y : Ext c H1 H2) : Ext c H H2 := fun a o e n => y a o (x a o e n) n
theorem Ext.new {c p : Addr} {H : Hp} {o : HO} (h : H p = none) : Ext c H (upd H p o) := fun a u e _ => by
  rw [upd_ne (ne_of_none e h)]; exact e
theorem Ext.rd {c : Addr} {H H' : Hp} (x : Ext c H H') {a : Addr} {u : HO} (n : a ≠ c) (r : Rd H a u) : Rd H' a u := by
  rcases r with r | ⟨o, r⟩
  · exact .inl (x a _ r n)
  · exact .inr ⟨o, x a _ r n⟩
theorem Ext.rdD {c : Addr} {H H' : Hp} (x : Ext c H H') {a : Addr} {u : HO} {ne : Prop} (n : a ≠ c) (r : RdD H a u ne) : RdD H' a u ne := by
  rcases r with r | ⟨h, o, r⟩
  · exact .inl (x a _ r n)
  · exact .inr ⟨h, o, x a _ r n⟩
theorem Ext.sqT {c : Addr} {K : PySem.W.Frag} {H H' : Hp} (x : Ext c H H') {a : Addr} {vs : List V} (n : a ≠ c) (r : SqT K H a vs) : SqT K H' a vs := by
  rcases r with r | r
  · exact .inl (x.rd n r)
  · exact .inr r
def CupOk (H : Hp) (c : Addr) : Prop := ∃ x y : Int, H c = some (.lst [.int x, .int y]) ∧ 0 ≤ x ∧ 0 ≤ y ∧ y < 2147483648
theorem CupOk.some {H : Hp} {c : Addr} (h : CupOk H c) : H c ≠ none := by
  obtain ⟨x, y, e, _⟩ := h
  rw [e]; exact fun z => nomatch z
/-- where one stands: the cup is there, B's objects are there -/
structure Here (B : Bn) (c : Addr) (H : Hp) : Prop where
  cup : CupOk H c
  dom : ∀ a, B a → H a ≠ none
theorem Here.ext {B : Bn} {c : Addr} {H H' : Hp} (h : Here B c H) (x : Ext c H H') (k : CupOk H' c) : Here B c H' := ⟨k, fun a b z => by
  by_cases e : a = c
  · exact k.some (e ▸ z)
  · cases q : H a with
    | none => exact h.dom a b q
    | some o => rw [x a o q e] at z; cases z⟩
theorem Here.ne {B : Bn} {c p : Addr} {H : Hp} (h : Here B c H) (hp : H p = none) : p ≠ c := fun e => h.cup.some (e ▸ hp)
theorem Here.nB {B : Bn} {c p : Addr} {H : Hp} (h : Here B c H) (hp : H p = none) : ¬ B p := fun b => h.dom p b hp
theorem Here.new {B : Bn} {c p : Addr} {H : Hp} {o : HO} (h : Here B c H) (hp : H p = none) : CupOk (upd H p o) c := by
  obtain ⟨x, y, e, r⟩ := h.cup
  exact ⟨x, y, by rw [upd_ne (Ne.symm (h.ne hp))]; exact e, r⟩

section
variable {K : PySem.W.Frag} {H H' : Hp} {B : Bn} {c : Addr}
mutual
theorem Rep.ext (x : Ext c H H') : ∀ {t : Tr} {v : V}, Rep K H B c t v → Rep K H' B c t v
  | .non, _, r => by simpa only [Rep] using r
  | .bl _, _, r => by simpa only [Rep] using r
  | .int _, _, r => by simpa only [Rep] using r
  | .str _, _, r => by simpa only [Rep] using r
  | .tup xs, _, r => by
    simp only [Rep] at r ⊢
    obtain ⟨a, vs, e, n, s, l⟩ := r
    exact ⟨a, vs, e, n, x a _ s n, RepL.ext x l⟩
  | .lst xs, _, r => by
    simp only [Rep] at r ⊢
    obtain ⟨a, vs, e, n, b, s, l⟩ := r
    exact ⟨a, vs, e, n, b, x a _ s n, RepL.ext x l⟩
  | .dct kvs, _, r => by
    simp only [Rep] at r ⊢
    obtain ⟨a, vs, e, n, b, l, s⟩ := r
    refine ⟨a, vs, e, n, b, RepV.ext x l, ?_⟩
    rcases s with ⟨ks, l1, l2, s⟩ | ⟨ks, l1, l2, s⟩
    · exact .inl ⟨ks, l1, l2, x.rdD n s⟩
    · exact .inr ⟨ks, l1, l2, x.rdD n s⟩
  | .set _, _, r => by simpa only [Rep] using r
  | .cup, _, r => by simpa only [Rep] using r
theorem RepL.ext (x : Ext c H H') : ∀ {ts : List Tr} {vs : List V}, RepL K H B c ts vs → RepL K H' B c ts vs
  | [], _, r => by simpa only [RepL] using r
  | t :: ts, _, r => by
    simp only [RepL] at r ⊢
    obtain ⟨v, w, e, h1, h2⟩ := r
    exact ⟨v, w, e, Rep.ext x h1, RepL.ext x h2⟩
theorem RepV.ext (x : Ext c H H') : ∀ {ts : List (Tr × Tr)} {vs : List V}, RepV K H B c ts vs → RepV K H' B c ts vs
  | [], _, r => by simpa only [RepV] using r
  | (_, t) :: ts, _, r => by
    simp only [RepV] at r ⊢
    obtain ⟨v, w, e, h1, h2⟩ := r
    exact ⟨v, w, e, Rep.ext x h1, RepV.ext x h2⟩
end
theorem RepW.ext (x : Ext c H H') {t : Tr} {v : V} (r : RepW K H B c t v) : RepW K H' B c t v := by
  cases t with
  | lst xs =>
    obtain ⟨a, vs, e, n, s, l⟩ := r
    exact ⟨a, vs, e, n, x a _ s n, l.ext x⟩
  | dct kvs =>
    obtain ⟨a, vs, e, n, l, s⟩ := r
    refine ⟨a, vs, e, n, l.ext x, ?_⟩
    rcases s with ⟨ks, l1, l2, s⟩ | ⟨ks, l1, l2, s⟩
    · exact .inl ⟨ks, l1, l2, x.rdD n s⟩
    · exact .inr ⟨ks, l1, l2, x.rdD n s⟩
  | _ => exact Rep.ext x r
theorem Rep.weak {t : Tr} {v : V} (r : Rep K H B c t v) : RepW K H B c t v := by
  cases t with
  | lst xs =>
    simp only [Rep] at r
    obtain ⟨a, vs, e, n, b, s, l⟩ := r
    exact ⟨a, vs, e, n, s, l⟩
  | dct kvs =>
    simp only [Rep] at r
    obtain ⟨a, vs, e, n, b, l, s⟩ := r
    exact ⟨a, vs, e, n, l, s⟩
  | _ => exact r
theorem RepL.length : ∀ {ts : List Tr} {vs : List V}, RepL K H B c ts vs → ts.length = vs.length
  | [], _, r => by simp only [RepL] at r; subst r; rfl
  | t :: ts, _, r => by
    simp only [RepL] at r
    obtain ⟨v, w, e, h1, h2⟩ := r
    subst e
    simp [RepL.length h2]
theorem RepL.nil : RepL K H B c [] [] := by simp only [RepL]
theorem RepL.cons {t : Tr} {ts : List Tr} {v : V} {vs : List V} (h : Rep K H B c t v) (r : RepL K H B c ts vs) : RepL K H B c (t :: ts) (v :: vs) := by
  simp only [RepL]; exact ⟨v, vs, rfl, h, r⟩
theorem RepL.inv_nil {vs : List V} (r : RepL K H B c [] vs) : vs = [] := by simpa only [RepL] using r
theorem RepL.inv_cons {t : Tr} {ts : List Tr} {vs : List V} (r : RepL K H B c (t :: ts) vs) : ∃ v w, vs = v :: w ∧ Rep K H B c t v ∧ RepL K H B c ts w := by simpa only [RepL] using r
theorem RepL.append : ∀ {ts us : List Tr} {vs ws : List V}, RepL K H B c ts vs → RepL K H B c us ws → RepL K H B c (ts ++ us) (vs ++ ws)
  | [], _, _, _, r, q => by rw [r.inv_nil]; exact q
  | t :: ts, _, _, _, r, q => by
    obtain ⟨v, w, rfl, h1, h2⟩ := r.inv_cons
    exact .cons h1 (RepL.append h2 q)
theorem RepL.get : ∀ {ts : List Tr} {vs : List V} {i : Nat} {t : Tr}, RepL K H B c ts vs → ts[i]? = some t → ∃ v, vs[i]? = some v ∧ Rep K H B c t v
  | [], _, _, _, _, e => by simp at e
  | t :: ts, _, 0, _, r, e => by
    obtain ⟨v, w, rfl, h1, h2⟩ := r.inv_cons
    simp at e; subst e
    exact ⟨v, rfl, h1⟩
  | t :: ts, _, i + 1, _, r, e => by
    obtain ⟨v, w, rfl, h1, h2⟩ := r.inv_cons
    obtain ⟨u, h3, h4⟩ := RepL.get h2 (i := i) (by simpa using e)
    exact ⟨u, by simpa using h3, h4⟩
theorem RepL.take : ∀ {ts : List Tr} {vs : List V} (n : Nat), RepL K H B c ts vs → RepL K H B c (ts.take n) (vs.take n)
  | _, _, 0, _ => by simpa using RepL.nil
  | [], _, n + 1, r => by rw [r.inv_nil]; simpa using RepL.nil
  | t :: ts, _, n + 1, r => by
    obtain ⟨v, w, rfl, h1, h2⟩ := r.inv_cons
    exact .cons h1 (RepL.take n h2)
theorem RepL.drop : ∀ {ts : List Tr} {vs : List V} (n : Nat), RepL K H B c ts vs → RepL K H B c (ts.drop n) (vs.drop n)
  | _, _, 0, r => by simpa using r
  | [], _, n + 1, r => by rw [r.inv_nil]; simpa using RepL.nil
  | t :: ts, _, n + 1, r => by
    obtain ⟨v, w, rfl, h1, h2⟩ := r.inv_cons
    simpa using RepL.drop n h2
theorem RepL.rev : ∀ {ts : List Tr} {vs : List V}, RepL K H B c ts vs → RepL K H B c ts.reverse vs.reverse
  | [], _, r => by rw [r.inv_nil]; simpa using RepL.nil
  | t :: ts, _, r => by
    obtain ⟨v, w, rfl, h1, h2⟩ := r.inv_cons
    rw [List.reverse_cons, List.reverse_cons]
    exact (RepL.rev h2).append (.cons h1 .nil)
theorem RepL.set : ∀ {ts : List Tr} {vs : List V} {t : Tr} {v : V} (i : Nat), RepL K H B c ts vs → Rep K H B c t v → RepL K H B c (ts.set i t) (vs.set i v)
  | [], _, _, _, _, r, _ => by rw [r.inv_nil]; simpa using RepL.nil
  | x :: ts, _, _, _, 0, r, h => by
    obtain ⟨v, w, rfl, h1, h2⟩ := r.inv_cons
    exact .cons h h2
  | x :: ts, _, _, _, i + 1, r, h => by
    obtain ⟨v, w, rfl, h1, h2⟩ := r.inv_cons
    exact .cons h1 (RepL.set i h2 h)
theorem RepL.rep {ts : List Tr} {vs : List V} (r : RepL K H B c ts vs) : ∀ n : Nat, RepL K H B c (List.replicate n ts).flatten (List.replicate n vs).flatten
  | 0 => by simpa using RepL.nil
  | n + 1 => by
    rw [List.replicate_succ, List.replicate_succ, List.flatten_cons, List.flatten_cons]
    exact r.append (RepL.rep r n)
theorem RepL.dropLast {ts : List Tr} {vs : List V} (r : RepL K H B c ts vs) : RepL K H B c ts.dropLast vs.dropLast := by
  rw [List.dropLast_eq_take, List.dropLast_eq_take, ← r.length]
  exact r.take _
theorem RepL.erase : ∀ {ts : List Tr} {vs : List V} (i : Nat), RepL K H B c ts vs → RepL K H B c (ts.eraseIdx i) (vs.eraseIdx i)
  | [], _, _, r => by rw [r.inv_nil]; simpa using RepL.nil
  | x :: ts, _, 0, r => by
    obtain ⟨v, w, rfl, h1, h2⟩ := r.inv_cons
    simpa using h2
  | x :: ts, _, i + 1, r => by
    obtain ⟨v, w, rfl, h1, h2⟩ := r.inv_cons
    simpa using RepL.cons h1 (RepL.erase i h2)
theorem repI {i : Int} : Rep K H B c (.int i) (.int i) := by simp only [Rep]
theorem repB {b : Bool} : Rep K H B c (.bl b) (.bl b) := by simp only [Rep]
theorem repN : Rep K H B c .non .non := by simp only [Rep]
theorem repS {s : List Nat} : Rep K H B c (.str s) (.str ⟨s.toArray⟩) := by simp only [Rep]
theorem repC : Rep K H B c .cup (.ref c) := by simp only [Rep]
theorem wInt {i : Int} {v : V} (r : RepW K H B c (.int i) v) : v = .int i := by simpa only [RepW, Rep] using r
theorem wBl {i : Bool} {v : V} (r : RepW K H B c (.bl i) v) : v = .bl i := by simpa only [RepW, Rep] using r
theorem wNon {v : V} (r : RepW K H B c .non v) : v = .non := by simpa only [RepW, Rep] using r
theorem wStr {s : List Nat} {v : V} (r : RepW K H B c (.str s) v) : v = .str ⟨s.toArray⟩ := by simpa only [RepW, Rep] using r
theorem wCup {v : V} (r : RepW K H B c .cup v) : v = .ref c := by simpa only [RepW, Rep] using r
theorem wTup {xs : List Tr} {v : V} (r : RepW K H B c (.tup xs) v) : ∃ a vs, v = .ref a ∧ a ≠ c ∧ H a = some (.tup vs) ∧ RepL K H B c xs vs := by simpa only [RepW, Rep] using r
theorem wLst {xs : List Tr} {v : V} (r : RepW K H B c (.lst xs) v) : ∃ a vs, v = .ref a ∧ a ≠ c ∧ H a = some (.lst vs) ∧ RepL K H B c xs vs := r
theorem Here.tup {p : Addr} {xs : List Tr} {vs : List V} (h : Here B c H) (hp : H p = none) (r : RepL K H B c xs vs) : Rep K (upd H p (.tup vs)) B c (.tup xs) (.ref p) := by
  simp only [Rep]
  exact ⟨p, vs, rfl, h.ne hp, upd_same, r.ext (Ext.new hp)⟩
theorem Here.lst {p : Addr} {xs : List Tr} {vs : List V} (h : Here B c H) (hp : H p = none) (r : RepL K H B c xs vs) : Rep K (upd H p (.lst vs)) B c (.lst xs) (.ref p) := by
  simp only [Rep]
  exact ⟨p, vs, rfl, h.ne hp, h.nB hp, upd_same, r.ext (Ext.new hp)⟩
end

section
variable {K : PySem.W.Frag} {H H' : Hp} {B B' : Bn} {c : Addr}
mutual
theorem Rep.mono (hb : ∀ a, B' a → B a) : ∀ {t : Tr} {v : V}, Rep K H B c t v → Rep K H B' c t v
  | .non, _, r => by simpa only [Rep] using r
  | .bl _, _, r => by simpa only [Rep] using r
  | .int _, _, r => by simpa only [Rep] using r
  | .str _, _, r => by simpa only [Rep] using r
  | .tup xs, _, r => by
    simp only [Rep] at r ⊢
    obtain ⟨a, vs, e, n, s, l⟩ := r
    exact ⟨a, vs, e, n, s, RepL.mono hb l⟩
  | .lst xs, _, r => by
    simp only [Rep] at r ⊢
    obtain ⟨a, vs, e, n, b, s, l⟩ := r
    exact ⟨a, vs, e, n, fun z => b (hb a z), s, RepL.mono hb l⟩
  | .dct kvs, _, r => by
    simp only [Rep] at r ⊢
    obtain ⟨a, vs, e, n, b, l, s⟩ := r
    exact ⟨a, vs, e, n, fun z => b (hb a z), RepV.mono hb l, s⟩
  | .set _, _, r => by simpa only [Rep] using r
  | .cup, _, r => by simpa only [Rep] using r
theorem RepL.mono (hb : ∀ a, B' a → B a) : ∀ {ts : List Tr} {vs : List V}, RepL K H B c ts vs → RepL K H B' c ts vs
  | [], _, r => by simpa only [RepL] using r
  | t :: ts, _, r => by
    simp only [RepL] at r ⊢
    obtain ⟨v, w, e, h1, h2⟩ := r
    exact ⟨v, w, e, Rep.mono hb h1, RepL.mono hb h2⟩
theorem RepV.mono (hb : ∀ a, B' a → B a) : ∀ {ts : List (Tr × Tr)} {vs : List V}, RepV K H B c ts vs → RepV K H B' c ts vs
  | [], _, r => by simpa only [RepV] using r
  | (_, t) :: ts, _, r => by
    simp only [RepV] at r ⊢
    obtain ⟨v, w, e, h1, h2⟩ := r
    exact ⟨v, w, e, Rep.mono hb h1, RepV.mono hb h2⟩
end
theorem RepW.mono (hb : ∀ a, B' a → B a) {t : Tr} {v : V} (r : RepW K H B c t v) : RepW K H B' c t v := by
  cases t with
  | lst xs =>
    obtain ⟨a, vs, e, n, s, l⟩ := r
    exact ⟨a, vs, e, n, s, l.mono hb⟩
  | dct kvs =>
    obtain ⟨a, vs, e, n, l, s⟩ := r
    exact ⟨a, vs, e, n, l.mono hb, s⟩
  | _ => exact Rep.mono hb r
/-- nothing is banned -/
abbrev B0 : Bn := fun _ => False
theorem RepW.free {t : Tr} {v : V} (r : RepW K H B c t v) : Rep K H B0 c t v := by
  have r0 := r.mono (B' := B0) fun _ z => z.elim
  cases t with
  | lst xs =>
    obtain ⟨a, vs, e, n, s, l⟩ := r0
    simp only [Rep]
    exact ⟨a, vs, e, n, fun z => z, s, l⟩
  | dct kvs =>
    obtain ⟨a, vs, e, n, l, s⟩ := r0
    simp only [Rep]
    exact ⟨a, vs, e, n, fun z => z, l, s⟩
  | _ => exact r0
theorem Here.free (h : Here B c H) : Here B0 c H := ⟨h.cup, fun _ z => z.elim⟩
mutual
/-- more is banned, all of it new -/
theorem Rep.chg (hb : ∀ a, B' a → B a ∨ H a = none) : ∀ {t : Tr} {v : V}, Rep K H B c t v → Rep K H B' c t v
  | .non, _, r => by simpa only [Rep] using r
  | .bl _, _, r => by simpa only [Rep] using r
  | .int _, _, r => by simpa only [Rep] using r
  | .str _, _, r => by simpa only [Rep] using r
  | .tup xs, _, r => by
    simp only [Rep] at r ⊢
    obtain ⟨a, vs, e, n, s, l⟩ := r
    exact ⟨a, vs, e, n, s, RepL.chg hb l⟩
  | .lst xs, _, r => by
    simp only [Rep] at r ⊢
    obtain ⟨a, vs, e, n, b, s, l⟩ := r
    exact ⟨a, vs, e, n, fun z => (hb a z).elim b fun q => (by rw [s] at q; cases q), s, RepL.chg hb l⟩
  | .dct kvs, _, r => by
    simp only [Rep] at r ⊢
    obtain ⟨a, vs, e, n, b, l, s⟩ := r
    have ha : H a ≠ none := by
      rcases s with ⟨ks, _, _, q | ⟨_, o, q⟩⟩ | ⟨ks, _, _, q | ⟨_, o, q⟩⟩ <;> rw [q] <;> exact fun z => nomatch z
    exact ⟨a, vs, e, n, fun z => (hb a z).elim b ha, RepV.chg hb l, s⟩
  | .set _, _, r => by simpa only [Rep] using r
  | .cup, _, r => by simpa only [Rep] using r
theorem RepL.chg (hb : ∀ a, B' a → B a ∨ H a = none) : ∀ {ts : List Tr} {vs : List V}, RepL K H B c ts vs → RepL K H B' c ts vs
  | [], _, r => by simpa only [RepL] using r
  | t :: ts, _, r => by
    simp only [RepL] at r ⊢
    obtain ⟨v, w, e, h1, h2⟩ := r
    exact ⟨v, w, e, Rep.chg hb h1, RepL.chg hb h2⟩
theorem RepV.chg (hb : ∀ a, B' a → B a ∨ H a = none) : ∀ {ts : List (Tr × Tr)} {vs : List V}, RepV K H B c ts vs → RepV K H B' c ts vs
  | [], _, r => by simpa only [RepV] using r
  | (_, t) :: ts, _, r => by
    simp only [RepV] at r ⊢
    obtain ⟨v, w, e, h1, h2⟩ := r
    exact ⟨v, w, e, Rep.chg hb h1, RepV.chg hb h2⟩
end
theorem RepW.chg (hb : ∀ a, B' a → B a ∨ H a = none) {t : Tr} {v : V} (r : RepW K H B c t v) : RepW K H B' c t v := by
  cases t with
  | lst xs =>
    obtain ⟨a, vs, e, n, s, l⟩ := r
    exact ⟨a, vs, e, n, s, l.chg hb⟩
  | dct kvs =>
    obtain ⟨a, vs, e, n, l, s⟩ := r
    exact ⟨a, vs, e, n, l.chg hb, s⟩
  | _ => exact Rep.chg hb r
theorem ban1 {a : Addr} (h : H a = none) : ∀ b, (B b ∨ b = a) → B b ∨ H b = none := fun b q => q.elim .inl fun e => .inr (by rw [e]; exact h)
/-- a value that was come to, whose top (a list, a dict) is new and nowhere else -/
def Fresh (K : PySem.W.Frag) (H H' : Hp) (B : Bn) (c : Addr) (t : Tr) (v : V) : Prop :=
  match t with
  | .lst xs => ∃ a vs, v = .ref a ∧ H a = none ∧ H' a = some (.lst vs) ∧ RepL K H' (fun b => B b ∨ b = a) c xs vs
  | .dct kvs => ∃ a vs, v = .ref a ∧ H a = none ∧ RepV K H' (fun b => B b ∨ b = a) c kvs vs ∧
      ((∃ ks : List Key, ks.length = vs.length ∧ kvs.map (·.1) = ks.map kT ∧ H' a = some (.dK (ks.zip vs))) ∨ ∃ ks : List (List Key), ks.length = vs.length ∧ kvs.map (·.1) = ks.map kTs ∧ H' a = some (.dT (ks.zip vs)))
  | t => Rep K H' B c t v
theorem Fresh.rep (h : Here B c H) {t : Tr} {v : V} (r : Fresh K H H' B c t v) : Rep K H' B c t v := by
  cases t with
  | lst xs =>
    obtain ⟨a, vs, e, n, s, l⟩ := r
    simp only [Rep]
    exact ⟨a, vs, e, h.ne n, h.nB n, s, l.mono fun _ z => .inl z⟩
  | dct kvs =>
    obtain ⟨a, vs, e, n, l, s⟩ := r
    simp only [Rep]
    refine ⟨a, vs, e, h.ne n, h.nB n, l.mono fun _ z => .inl z, ?_⟩
    rcases s with ⟨ks, l1, l2, s⟩ | ⟨ks, l1, l2, s⟩
    · exact .inl ⟨ks, l1, l2, .inl s⟩
    · exact .inr ⟨ks, l1, l2, .inl s⟩
  | _ => exact r
end
/-- what follows a new tree -/
def AftF (K : PySem.W.Frag) (B : Bn) (c : Addr) (H : Hp) (Q : VK) (t : Tr) : Prop := ∀ v H', Ext c H H' → CupOk H' c → Fresh K H H' B c t v → Q v H'
/-- what follows a tree that was come to -/
def Aft (K : PySem.W.Frag) (B : Bn) (c : Addr) (H : Hp) (Q : VK) (t : Tr) : Prop := ∀ v H', Ext c H H' → CupOk H' c → Rep K H' B c t v → Q v H'
/-- no error is let out -/
abbrev NE : Nat → Prop := fun _ => False
abbrev WP {α : Type} (m : Py.M α) (Q : α → Prop) : Prop := m.wp NE Q
section
variable {K : PySem.W.Frag} {H H1 : Hp} {B : Bn} {c : Addr} {Q : VK} {t : Tr}
theorem Aft.same {v : V} (a : Aft K B c H Q t) (h : Here B c H) (r : Rep K H B c t v) : Q v H := a v H (Ext.refl c H) h.cup r
theorem Aft.newT {p : Addr} {xs : List Tr} {vs : List V} (a : Aft K B c H Q (.tup xs)) (h : Here B c H) (hp : H p = none) (r : RepL K H B c xs vs) : Q (.ref p) (upd H p (.tup vs)) :=
  a _ _ (Ext.new hp) (h.new hp) (h.tup hp r)
theorem Aft.newL {p : Addr} {xs : List Tr} {vs : List V} (a : Aft K B c H Q (.lst xs)) (h : Here B c H) (hp : H p = none) (r : RepL K H B c xs vs) : Q (.ref p) (upd H p (.lst vs)) :=
  a _ _ (Ext.new hp) (h.new hp) (h.lst hp r)
theorem Aft.ext (a : Aft K B c H Q t) (x : Ext c H H1) : Aft K B c H1 Q t := fun v H' y k r => a v H' (x.trans y) k r
end
section
variable {K : PySem.W.Frag} {H H1 : Hp} {B : Bn} {c : Addr} {Q : VK} {t : Tr}
theorem Aft.toF (a : Aft K B c H Q t) (h : Here B c H) : AftF K B c H Q t := fun v H' x k r => a v H' x k (r.rep h)
theorem AftF.same {v : V} (a : AftF K B c H Q t) (h : Here B c H) (r : Fresh K H H B c t v) : Q v H := a v H (Ext.refl c H) h.cup r
theorem AftF.newT {p : Addr} {xs : List Tr} {vs : List V} (a : AftF K B c H Q (.tup xs)) (h : Here B c H) (hp : H p = none) (r : RepL K H B c xs vs) : Q (.ref p) (upd H p (.tup vs)) :=
  a _ _ (Ext.new hp) (h.new hp) (show Rep K _ B c _ _ from h.tup hp r)
theorem AftF.newL {p : Addr} {xs : List Tr} {vs : List V} (a : AftF K B c H Q (.lst xs)) (h : Here B c H) (hp : H p = none) (r : RepL K H B c xs vs) : Q (.ref p) (upd H p (.lst vs)) :=
  a _ _ (Ext.new hp) (h.new hp) ⟨p, vs, rfl, hp, upd_same, (r.chg (ban1 hp)).ext (Ext.new hp)⟩
end
theorem toList_toArray' (s : List Nat) : (⟨s.toArray⟩ : Str).cps.toList = s := by simp
theorem str_ext {x y : Str} (h : x.cps.toList = y.cps.toList) : x = y := by
  cases x with
  | mk x => cases y with
    | mk y =>
      have : x = y := Array.toList_inj.mp h
      subst this; rfl
end Snd

set_option Elab.async false
set_option linter.all false
set_option maxRecDepth 100000
set_option maxHeartbeats 2000000
namespace Snd
open PySem PySem.Spec L2
open PyProof.Rows hiding St

mutual
def toD : Tr → PyData
  | .bl b => .bool b
  | .int i => .int i
  | .str s => .str ⟨s.toArray⟩
  | .tup xs => .tuple (toDs xs)
  | .lst xs => .list (toDs xs)
  | _ => .none
def toDs : List Tr → List PyData
  | [] => []
  | x :: xs => toD x :: toDs xs
end
section
variable {K : PySem.W.Frag} {H : Hp} {B : Bn} {c : Addr}
mutual
theorem Rep.dp : ∀ {t : Tr} {v : V}, Rep K H B c t v → Py.plain t = true → Dp K H v (toD t)
  | .non, _, r, _ => by simp only [Rep] at r; subst r; exact .non
  | .bl _, _, r, _ => by simp only [Rep] at r; subst r; exact .bl _
  | .int _, _, r, _ => by simp only [Rep] at r; subst r; exact .int _
  | .str _, _, r, _ => by simp only [Rep] at r; subst r; exact .str _
  | .tup xs, _, r, p => by
    simp only [Rep] at r
    obtain ⟨a, vs, rfl, n, s, l⟩ := r
    exact .tup (.inl (.inl s)) (RepL.dp l (by simpa only [Py.plain] using p))
  | .lst xs, _, r, p => by
    simp only [Rep] at r
    obtain ⟨a, vs, rfl, n, b, s, l⟩ := r
    exact .lst (.inl (.inl s)) (RepL.dp l (by simpa only [Py.plain] using p))
  | .dct _, _, _, p => by simp [Py.plain] at p
  | .set _, _, _, p => by simp [Py.plain] at p
  | .cup, _, _, p => by simp [Py.plain] at p
theorem RepL.dp : ∀ {ts : List Tr} {vs : List V}, RepL K H B c ts vs → Py.plainL ts = true → DpAll K H vs (toDs ts)
  | [], _, r, _ => by rw [r.inv_nil]; exact .nil
  | t :: ts, _, r, p => by
    obtain ⟨v, w, rfl, h1, h2⟩ := r.inv_cons
    have p' : Py.plain t = true ∧ Py.plainL ts = true := by simpa [Py.plainL] using p
    exact .cons (Rep.dp h1 p'.1) (RepL.dp h2 p'.2)
end
theorem RepW.dp {t : Tr} {v : V} (r : RepW K H B c t v) (p : Py.plain t = true) : Dp K H v (toD t) := by
  cases t with
  | lst xs =>
    obtain ⟨a, vs, rfl, n, s, l⟩ := r
    exact .lst (.inl (.inl s)) (RepL.dp l (by simpa only [Py.plain] using p))
  | dct _ => simp [Py.plain] at p
  | _ => exact Rep.dp (B := B) (c := c) r p
end
mutual
theorem lay_toD : ∀ {t : Tr}, Py.plain t = true → (toD t).canLay0 = true
  | .non, _ => rfl
  | .bl _, _ => rfl
  | .int _, _ => rfl
  | .str s, p => by
    have h : s.all (fun n => decide (n < 1114112)) = true := by simpa only [Py.plain] using p
    show PyData.strOk ⟨s.toArray⟩ = true
    unfold PyData.strOk
    simpa using h
  | .tup xs, p => by
    show PyData.canLay0 (.tuple (toDs xs)) = true
    simp only [PyData.canLay0]
    exact lay_toDs (by simpa only [Py.plain] using p)
  | .lst xs, p => by
    show PyData.canLay0 (.list (toDs xs)) = true
    simp only [PyData.canLay0]
    exact lay_toDs (by simpa only [Py.plain] using p)
  | .dct _, p => by simp [Py.plain] at p
  | .set _, p => by simp [Py.plain] at p
  | .cup, p => by simp [Py.plain] at p
theorem lay_toDs : ∀ {ts : List Tr}, Py.plainL ts = true → PyData.canLayAll0 (toDs ts) = true
  | [], _ => rfl
  | t :: ts, p => by
    have p' : Py.plain t = true ∧ Py.plainL ts = true := by simpa [Py.plainL] using p
    simp only [toDs, PyData.canLayAll0, lay_toD p'.1, lay_toDs p'.2]; rfl
end
mutual
theorem dep_toD : ∀ (t : Tr), (toD t).depth ≤ Py.dep t
  | .non => Nat.le_refl _
  | .bl _ => Nat.le_refl _
  | .int _ => Nat.le_refl _
  | .str s => Nat.le_refl _
  | .tup xs => by simp only [toD, PyData.depth, Py.dep]; exact Nat.succ_le_succ (dep_toDs xs)
  | .lst xs => by simp only [toD, PyData.depth, Py.dep]; exact Nat.succ_le_succ (dep_toDs xs)
  | .dct _ => Nat.zero_le _
  | .set _ => Nat.zero_le _
  | .cup => Nat.zero_le _
theorem dep_toDs : ∀ (ts : List Tr), PyData.depthAll (toDs ts) ≤ Py.depL ts
  | [] => Nat.le_refl _
  | t :: ts => by
    simp only [toDs, PyData.depthAll, Py.depL]
    have h1 := dep_toD t
    have h2 := dep_toDs ts
    omega
end
theorem beq_str (x y : List Nat) : ((⟨x.toArray⟩ : Str) == ⟨y.toArray⟩) = (x == y) := by
  by_cases e : x = y
  · subst e; simp
  · have h : ¬ (⟨x.toArray⟩ : Str) = ⟨y.toArray⟩ := fun z => e (by injection z with z; simpa using z)
    rw [beq_eq_false_iff_ne.mpr e]
    exact beq_eq_false_iff_ne.mpr h
mutual
theorem eqv_toD : ∀ (t u : Tr), Py.plain t = true → Py.plain u = true → PyData.eqv (toD t) (toD u) = Py.eqT t u
  | .non, u, _, q => by cases u <;> simp [Py.plain] at q <;> simp [toD, PyData.eqv, Py.eqT]
  | .bl _, u, _, q => by cases u <;> simp [Py.plain] at q <;> simp [toD, PyData.eqv, Py.eqT]
  | .int _, u, _, q => by cases u <;> simp [Py.plain] at q <;> simp [toD, PyData.eqv, Py.eqT]
  | .str s, u, _, q => by
    cases u <;> simp [Py.plain] at q <;> simp only [toD, PyData.eqv, Py.eqT]
    exact beq_str _ _
  | .tup xs, u, p, q => by
    cases u with
    | tup ys => simp only [toD, PyData.eqv, Py.eqT]; exact eqv_toDs xs ys (by simpa only [Py.plain] using p) (by simpa only [Py.plain] using q)
    | _ => simp [Py.plain] at q <;> simp [toD, PyData.eqv, Py.eqT]
  | .lst xs, u, p, q => by
    cases u with
    | lst ys => simp only [toD, PyData.eqv, Py.eqT]; exact eqv_toDs xs ys (by simpa only [Py.plain] using p) (by simpa only [Py.plain] using q)
    | _ => simp [Py.plain] at q <;> simp [toD, PyData.eqv, Py.eqT]
  | .dct _, _, p, _ => by simp [Py.plain] at p
  | .set _, _, p, _ => by simp [Py.plain] at p
  | .cup, _, p, _ => by simp [Py.plain] at p
theorem eqv_toDs : ∀ (ts us : List Tr), Py.plainL ts = true → Py.plainL us = true → PyData.eqvAll (toDs ts) (toDs us) = Py.eqL ts us
  | [], [], _, _ => rfl
  | [], _ :: _, _, _ => rfl
  | _ :: _, [], _, _ => rfl
  | t :: ts, u :: us, p, q => by
    have p' : Py.plain t = true ∧ Py.plainL ts = true := by simpa [Py.plainL] using p
    have q' : Py.plain u = true ∧ Py.plainL us = true := by simpa [Py.plainL] using q
    simp only [toDs, PyData.eqvAll, Py.eqL, eqv_toD t u p'.1 q'.1, eqv_toDs ts us p'.2 q'.2]
end

section
variable {X : L2.Cx} {c : Addr}
abbrev Roomy (X : L2.Cx) : Prop := X.A.units + 100 < cLine
theorem eqOk_inv {t u : Tr} (h : Py.eqOk t u = true) : Py.plain t = true ∧ Py.plain u = true ∧ min (Py.dep t) (Py.dep u) ≤ 60 := by
  unfold Py.eqOk at h
  simp only [Bool.and_eq_true, decide_eq_true_eq] at h
  exact ⟨h.1.1, h.1.2, h.2⟩
theorem depth_min {t u : Tr} {n : Nat} (h : min (Py.dep t) (Py.dep u) ≤ n) : min (toD t).depth (toD u).depth ≤ n := by
  have h1 := dep_toD t
  have h2 := dep_toD u
  omega
/-- an operation on two trees -/
def r2 (K : PySem.W.Frag) (c : Addr) (f : Tr → Tr → Py.M Tr) : R2 := fun x y H Q => ∃ (B : Bn) (t u : Tr), Here B c H ∧ RepW K H B c t x ∧ RepW K H B c u y ∧ WP (f t u) (Aft K B c H Q)
theorem reads_of {pins : List (Addr × Obj)} {σ : St} {H : Hp} {s : Shared} {B : Bn} {t : Tr} {v : V} {u : Value} (I : Inv X pins σ H s) (r : RepW X.K H B c t v) (p : Py.plain t = true) (rv : RelV v u) : ∃ as, Reads s.heap u (toD t) as :=
  Dp.reads I (toD t) v u (r.dp p) rv
theorem wp_ite {α : Type} {b : Bool} {m n : Py.M α} {Q : α → Prop} (h : WP (if b = true then m else n) Q) : (b = true ∧ WP m Q) ∨ (b = false ∧ WP n Q) := by
  cases b with
  | true => exact .inl ⟨rfl, h⟩
  | false => exact .inr ⟨rfl, h⟩
theorem wp_ifs {α : Type} {p : Prop} [Decidable p] {m : Py.M α} {Q : α → Prop} (h : WP (if p then m else .stuck) Q) : p ∧ WP m Q := by
  by_cases e : p
  · rw [if_pos e] at h; exact ⟨e, h⟩
  · rw [if_neg e] at h; exact h.elim
theorem eqM_wp {t u : Tr} {f : Bool → Tr} {Q : Tr → Prop} (h : WP ((Py.eqM t u).bind fun r => .ret (f r)) Q) : Py.eqOk t u = true ∧ Q (f (Py.eqT t u)) := by
  unfold Py.eqM at h
  cases e : Py.eqOk t u with
  | true => rw [e] at h; exact ⟨rfl, h⟩
  | false => rw [e] at h; exact h.elim
end
theorem ordN_lt : ∀ (x y : List Nat), (Py.ordN x y == .lt) = decide (x < y)
  | [], [] => by simp [Py.ordN]
  | [], _ :: _ => by simp [Py.ordN]
  | _ :: _, [] => by simp [Py.ordN]
  | a :: x, b :: y => by
    simp only [Py.ordN]
    by_cases h1 : a < b
    · rw [if_pos h1]; simp [List.cons_lt_cons_iff, h1]
    · rw [if_neg h1]
      by_cases h2 : b < a
      · rw [if_pos h2]
        have : a ≠ b := by omega
        simp [List.cons_lt_cons_iff, h1, this]
      · rw [if_neg h2]
        have e : a = b := by omega
        subst e
        rw [ordN_lt x y]
        simp [List.cons_lt_cons_iff]
theorem ordN_gt : ∀ (x y : List Nat), (Py.ordN x y == .gt) = decide (y < x)
  | [], [] => by simp [Py.ordN]
  | [], _ :: _ => by simp [Py.ordN]
  | _ :: _, [] => by simp [Py.ordN]
  | a :: x, b :: y => by
    simp only [Py.ordN]
    by_cases h1 : a < b
    · rw [if_pos h1]
      have : b ≠ a := by omega
      have h3 : ¬ b < a := by omega
      simp [List.cons_lt_cons_iff, h3, this]
    · rw [if_neg h1]
      by_cases h2 : b < a
      · rw [if_pos h2]; simp [List.cons_lt_cons_iff, h2]
      · rw [if_neg h2]
        have e : a = b := by omega
        subst e
        rw [ordN_gt x y]
        simp [List.cons_lt_cons_iff]
/-- what an ordering answers -/
def ansO : CmpOp → Ordering → Bool
  | .Lt, o => o == .lt
  | .LtE, o => o != .gt
  | .Gt, o => o == .gt
  | .GtE, o => o != .lt
  | _, _ => false
def isOrd : CmpOp → Bool
  | .Lt => true
  | .LtE => true
  | .Gt => true
  | .GtE => true
  | _ => false
theorem rc_int {op : CmpOp} (h : isOrd op = true) {A : Around} {s : Shared} (a b : Int) (t u : Tok) : Ob.RcOp op A s (.int a t) (.int b u) (ansO op (if a < b then .lt else if b < a then .gt else .eq)) := by
  have key : ∀ {p : Bool}, Ob.RcOp op A s (.int a t) (.int b u) p → p = ansO op (if a < b then .lt else if b < a then .gt else .eq) → Ob.RcOp op A s (.int a t) (.int b u) (ansO op (if a < b then .lt else if b < a then .gt else .eq)) := fun x e => by rw [← e]; exact x
  cases op <;> simp [isOrd] at h
  · refine key (Ob.RcOp.lt_int a b t u) ?_
    by_cases h1 : a < b
    · simp [h1, ansO]
    · by_cases h2 : b < a
      · simp [h1, h2, ansO]
      · simp [h1, h2, ansO]
  · refine key (Ob.RcOp.le_int a b t u) ?_
    by_cases h1 : a < b
    · have : a ≤ b := by omega
      simp [h1, this, ansO]
    · by_cases h2 : b < a
      · have : ¬ a ≤ b := by omega
        simp [h1, h2, this, ansO]
      · have : a ≤ b := by omega
        simp [h1, h2, this, ansO]
  · refine key (Ob.RcOp.gt_int a b t u) ?_
    by_cases h1 : a < b
    · have : ¬ b < a := by omega
      simp [h1, this, ansO]
    · by_cases h2 : b < a
      · simp [h1, h2, ansO]
      · simp [h1, h2, ansO]
  · refine key (Ob.RcOp.ge_int a b t u) ?_
    by_cases h1 : a < b
    · have : ¬ b ≤ a := by omega
      simp [h1, this, ansO]
    · by_cases h2 : b < a
      · have : b ≤ a := by omega
        simp [h1, h2, this, ansO]
      · have : b ≤ a := by omega
        simp [h1, h2, this, ansO]
theorem rc_str {op : CmpOp} (h : isOrd op = true) {A : Around} {s : Shared} (x y : List Nat) (t u : Tok) : Ob.RcOp op A s (.str ⟨x.toArray⟩ t) (.str ⟨y.toArray⟩ u) (ansO op (Py.ordN x y)) := by
  intro prog w E Q q
  have l1 := ordN_lt x y
  have l2 := ordN_gt x y
  have n1 : (Py.ordN x y != .gt) = !decide (y < x) := by rw [← l2]; rfl
  have n2 : (Py.ordN x y != .lt) = !decide (x < y) := by rw [← l1]; rfl
  cases op <;> simp [isOrd] at h
  · show wpAny _ _ (compareOp .Lt _ _) _ _ _
    refine lt_str ?_
    simp only [ansO, l1] at q
    simpa using q
  · show wpAny _ _ (compareOp .LtE _ _) _ _ _
    refine PySem.P.le_str ?_
    simp only [ansO, n1] at q
    simpa using q
  · show wpAny _ _ (compareOp .Gt _ _) _ _ _
    refine PySem.P.gt_str ?_
    simp only [ansO, l2] at q
    simpa using q
  · show wpAny _ _ (compareOp .GtE _ _) _ _ _
    refine PySem.P.ge_str ?_
    simp only [ansO, n2] at q
    simpa using q

theorem readsAll_get {h : Heap} : ∀ {vs : List Value} {ds : List PyData} {as : List Addr} {j : Nat} {d : PyData}, ReadsAll h vs ds as → ds[j]? = some d → ∃ v bs, vs[j]? = some v ∧ Reads h v d bs
  | _, _, _, _, _, .nil, e => by simp at e
  | _, _, _, 0, _, .cons r _, e => by simp at e; subst e; exact ⟨_, _, rfl, r⟩
  | _, _, _, j + 1, _, .cons _ rs, e => by
    obtain ⟨v, bs, h1, h2⟩ := readsAll_get rs (j := j) (by simpa using e)
    exact ⟨v, bs, by simpa using h1, h2⟩
theorem readsAll_len {h : Heap} : ∀ {vs : List Value} {ds : List PyData} {as : List Addr}, ReadsAll h vs ds as → vs.length = ds.length
  | _, _, _, .nil => rfl
  | _, _, _, .cons _ rs => by simp [readsAll_len rs]
theorem toDs_len : ∀ (ts : List Tr), (toDs ts).length = ts.length
  | [] => rfl
  | t :: ts => by simp [toDs, toDs_len ts]
theorem toDs_get : ∀ {ts : List Tr} {j : Nat} {t : Tr}, ts[j]? = some t → (toDs ts)[j]? = some (toD t)
  | [], _, _, e => by simp at e
  | t :: ts, 0, _, e => by simp at e; subst e; simp [toDs]
  | t :: ts, j + 1, _, e => by simp at e; simpa [toDs] using toDs_get e
def eJ (xs ys : List Tr) (j : Nat) : Bool := match xs[j]?, ys[j]? with
  | some x, some y => Py.eqT x y
  | _, _ => false
def rJ (op : CmpOp) (xs ys : List Tr) (j : Nat) : Bool := match xs[j]?, ys[j]? with
  | some x, some y => (match Py.ordT x y with
    | some o => ansO op o
    | none => false)
  | _, _ => false
def lenO (n m : Nat) : Ordering := if n < m then .lt else if m < n then .gt else .eq
theorem eJ_succ (x y : Tr) (xs ys : List Tr) (j : Nat) : eJ (x :: xs) (y :: ys) (j + 1) = eJ xs ys j := by unfold eJ; simp
theorem rJ_succ (op : CmpOp) (x y : Tr) (xs ys : List Tr) (j : Nat) : rJ op (x :: xs) (y :: ys) (j + 1) = rJ op xs ys j := by unfold rJ; simp
theorem lexAt_shift {e r e' r' : Nat → Bool} {z : Bool} (he : ∀ j, e (j + 1) = e' j) (hr : ∀ j, r (j + 1) = r' j) : ∀ (k i : Nat), Ob.lexAt e r z (i + 1) k = Ob.lexAt e' r' z i k
  | 0, _ => by rw [Ob.lexAt_zero, Ob.lexAt_zero]
  | k + 1, i => by rw [Ob.lexAt_succ, Ob.lexAt_succ, he, hr, lexAt_shift he hr k (i + 1)]
theorem lex_ord {op : CmpOp} : ∀ (xs ys : List Tr) (o : Ordering), Py.ordL xs ys = some o → Ob.lexAt (eJ xs ys) (rJ op xs ys) (ansO op (lenO xs.length ys.length)) 0 (min xs.length ys.length) = ansO op o
  | [], [], o, h => by
    simp only [Py.ordL, Option.some.injEq] at h
    subst h
    simp [Ob.lexAt_zero, lenO]
  | [], y :: ys, o, h => by
    simp only [Py.ordL, Option.some.injEq] at h
    subst h
    simp [Ob.lexAt_zero, lenO]
  | x :: xs, [], o, h => by
    simp only [Py.ordL, Option.some.injEq] at h
    subst h
    simp [Ob.lexAt_zero, lenO]
  | x :: xs, y :: ys, o, h => by
    simp only [Py.ordL] at h
    cases q : Py.ordL xs ys with
    | none => rw [q] at h; cases h
    | some o' =>
      rw [q] at h
      have ih := lex_ord (op := op) xs ys o' q
      have e1 : min (x :: xs).length (y :: ys).length = min xs.length ys.length + 1 := by simp only [List.length_cons]; omega
      have e2 : lenO (x :: xs).length (y :: ys).length = lenO xs.length ys.length := by unfold lenO; simp only [List.length_cons, Nat.add_lt_add_iff_right]
      rw [e1, e2, Ob.lexAt_succ, lexAt_shift (eJ_succ x y xs ys) (rJ_succ op x y xs ys)]
      have e3 : eJ (x :: xs) (y :: ys) 0 = Py.eqT x y := rfl
      rw [e3]
      cases r : Py.eqT x y with
      | true =>
        rw [r] at h
        have h' : some o' = some o := h
        injection h' with h'
        subst h'
        rw [if_pos rfl]
        exact ih
      | false =>
        rw [r] at h
        have h' : Py.ordT x y = some o := h
        rw [if_neg (by simp)]
        unfold rJ
        simp [h']
theorem ordL_at : ∀ {xs ys : List Tr} {o : Ordering} {j : Nat} {x y : Tr}, Py.ordL xs ys = some o → xs[j]? = some x → ys[j]? = some y → Py.eqT x y = false → ∃ o', Py.ordT x y = some o'
  | [], _, _, _, _, _, _, e, _, _ => by simp at e
  | _ :: _, [], _, _, _, _, _, _, e, _ => by simp at e
  | a :: xs, b :: ys, o, 0, x, y, h, e1, e2, ne => by
    simp at e1 e2; subst e1; subst e2
    simp only [Py.ordL] at h
    cases q : Py.ordL xs ys with
    | none => rw [q] at h; cases h
    | some o' =>
      rw [q, ne] at h
      exact ⟨o, h⟩
  | a :: xs, b :: ys, o, j + 1, x, y, h, e1, e2, ne => by
    simp only [Py.ordL] at h
    cases q : Py.ordL xs ys with
    | none => rw [q] at h; cases h
    | some o' => exact ordL_at q (by simpa using e1) (by simpa using e2) ne
theorem plainL_at : ∀ {xs : List Tr} {j : Nat} {x : Tr}, Py.plainL xs = true → xs[j]? = some x → Py.plain x = true
  | [], _, _, _, e => by simp at e
  | a :: xs, 0, x, p, e => by
    simp at e; subst e
    have p' : Py.plain a = true ∧ Py.plainL xs = true := by simpa [Py.plainL] using p
    exact p'.1
  | a :: xs, j + 1, x, p, e => by
    have p' : Py.plain a = true ∧ Py.plainL xs = true := by simpa [Py.plainL] using p
    exact plainL_at p'.2 (by simpa using e)
theorem depL_at : ∀ {xs : List Tr} {j : Nat} {x : Tr}, xs[j]? = some x → Py.dep x ≤ Py.depL xs
  | [], _, _, e => by simp at e
  | a :: xs, 0, x, e => by
    simp at e; subst e
    simp only [Py.depL]; omega
  | a :: xs, j + 1, x, e => by
    have := depL_at (xs := xs) (j := j) (x := x) (by simpa using e)
    simp only [Py.depL]; omega
theorem zOp (op : CmpOp) (h : isOrd op = true) (n m : Nat) : ansO op (lenO n m) = (match op with | .Lt => decide (n < m) | .LtE => decide (n ≤ m) | .Gt => decide (n > m) | .GtE => decide (n ≥ m) | _ => false) := by
  rcases Nat.lt_trichotomy n m with g | g | g
  · have e : lenO n m = .lt := by unfold lenO; rw [if_pos g]
    have g1 : n ≤ m := by omega
    have g2 : ¬ m < n := by omega
    have g3 : ¬ m ≤ n := by omega
    rw [e]
    cases op <;> simp [isOrd] at h <;> simp [ansO, g, g1, g2, g3]
  · have e : lenO n m = .eq := by unfold lenO; rw [if_neg (by omega), if_neg (by omega)]
    rw [e]
    subst g
    cases op <;> simp [isOrd] at h <;> simp [ansO]
  · have e : lenO n m = .gt := by unfold lenO; rw [if_neg (by omega), if_pos g]
    have g1 : m ≤ n := by omega
    have g2 : ¬ n < m := by omega
    have g3 : ¬ n ≤ m := by omega
    rw [e]
    cases op <;> simp [isOrd] at h <;> simp [ansO, g, g1, g2, g3]
theorem rc_tuples {op : CmpOp} (h : isOrd op = true) {A : Around} {s : Shared} {l b : Addr} {items items2 : Array Value} {e r : Nat → Bool} (hl : s.heap.IsTuple l items) (hb : s.heap.IsTuple b items2) (hu : A.units < cLine) (he : ∀ j (h1 : j < items.size) (h2 : j < items2.size), SeqAt.EqAt A.in1 s items[j] items2[j] (e j))
    (hr : ∀ j (h1 : j < items.size) (h2 : j < items2.size), e j = false → Ob.RcOp op A.in1 s items[j] items2[j] (r j)) : Ob.RcOp op A s (.ref l) (.ref b) (Ob.lexAt e r (ansO op (lenO items.size items2.size)) 0 (min items.size items2.size)) := by
  rw [zOp op h]
  cases op <;> simp [isOrd] at h
  · exact Ob.RcOp.tuples_lt hl hb hu he hr
  · exact Ob.RcOp.tuples_le hl hb hu he hr
  · exact Ob.RcOp.tuples_gt hl hb hu he hr
  · exact Ob.RcOp.tuples_ge hl hb hu he hr
mutual
theorem rc_tree {op : CmpOp} (hop : isOrd op = true) : ∀ (t u : Tr) (o : Ordering) (A : Around) (s : Shared) (v w : Value) (as bs : List Addr), Reads s.heap v (toD t) as → Reads s.heap w (toD u) bs → Py.plain t = true → Py.plain u = true → Py.ordT t u = some o → A.units + min (Py.dep t) (Py.dep u) < cLine → Ob.RcOp op A s v w (ansO op o)
  | .int i, u, o, A, s, v, w, as, bs, r1, r2, _, _, h, _ => by
    cases u with
    | int j =>
      simp only [Py.ordT, Option.some.injEq] at h
      subst h
      cases r1
      cases r2
      exact rc_int hop _ _ _ _
    | _ => simp [Py.ordT] at h
  | .str x, u, o, A, s, v, w, as, bs, r1, r2, _, _, h, _ => by
    cases u with
    | str y =>
      simp only [Py.ordT, Option.some.injEq] at h
      subst h
      cases r1
      cases r2
      exact rc_str hop _ _ _ _
    | _ => simp [Py.ordT] at h
  | .tup xs, u, o, A, s, v, w, as, bs, r1, r2, p1, p2, h, hd => by
    cases u with
    | tup ys =>
      simp only [Py.ordT] at h
      have r1' : Reads s.heap v (.tuple (toDs xs)) as := r1
      have r2' : Reads s.heap w (.tuple (toDs ys)) bs := r2
      cases r1' with
      | @tuple a oa va na _ _ ha ca da ra =>
        cases r2' with
        | @tuple b ob vb nb _ _ hb cb db rb =>
          have p1' : Py.plainL xs = true := by simpa only [Py.plain] using p1
          have p2' : Py.plainL ys = true := by simpa only [Py.plain] using p2
          have l1 : va.size = xs.length := by rw [← toDs_len xs, ← readsAll_len ra]; simp
          have l2 : vb.size = ys.length := by rw [← toDs_len ys, ← readsAll_len rb]; simp
          simp only [Py.dep] at hd
          have key := rc_tuples hop (A := A) (s := s) (e := eJ xs ys) (r := rJ op xs ys) (l := a) (b := b) (items := va) (items2 := vb) ⟨oa, ha, ca, na, da⟩ ⟨ob, hb, cb, nb, db⟩ (by omega) (fun j h1 h2 => by
              have g1 : j < xs.length := by omega
              have g2 : j < ys.length := by omega
              obtain ⟨v1, b1, e1, q1⟩ := readsAll_get ra (toDs_get (List.getElem?_eq_getElem g1))
              obtain ⟨v2, b2, e2, q2⟩ := readsAll_get rb (toDs_get (List.getElem?_eq_getElem g2))
              have i1 : va[j] = v1 := by
                have z : va.toList[j]? = some va[j] := by simp [h1]
                rw [z] at e1; exact Option.some.inj e1
              have i2 : vb[j] = v2 := by
                have z : vb.toList[j]? = some vb[j] := by simp [h2]
                rw [z] at e2; exact Option.some.inj e2
              rw [i1, i2]
              have pe : eJ xs ys j = PyData.eqv (toD xs[j]) (toD ys[j]) := by
                rw [eqv_toD _ _ (plainL_at p1' (List.getElem?_eq_getElem g1)) (plainL_at p2' (List.getElem?_eq_getElem g2))]
                unfold eJ
                rw [List.getElem?_eq_getElem g1, List.getElem?_eq_getElem g2]
              rw [pe]
              refine SeqAt.eqAt_reads _ _ A.in1 s v1 v2 b1 b2 q1 q2 (lay_toD (plainL_at p1' (List.getElem?_eq_getElem g1))) (lay_toD (plainL_at p2' (List.getElem?_eq_getElem g2))) ?_
              have d1 := dep_toD xs[j]
              have d2 := dep_toD ys[j]
              have d3 := depL_at (List.getElem?_eq_getElem g1)
              have d4 := depL_at (List.getElem?_eq_getElem g2)
              have u1 : A.in1.units = A.units + 1 := rfl
              rw [u1]
              omega) (fun j h1 h2 ne => by
              have g1 : j < xs.length := by omega
              have g2 : j < ys.length := by omega
              obtain ⟨v1, b1, e1, q1⟩ := readsAll_get ra (toDs_get (List.getElem?_eq_getElem g1))
              obtain ⟨v2, b2, e2, q2⟩ := readsAll_get rb (toDs_get (List.getElem?_eq_getElem g2))
              have i1 : va[j] = v1 := by
                have z : va.toList[j]? = some va[j] := by simp [h1]
                rw [z] at e1; exact Option.some.inj e1
              have i2 : vb[j] = v2 := by
                have z : vb.toList[j]? = some vb[j] := by simp [h2]
                rw [z] at e2; exact Option.some.inj e2
              rw [i1, i2]
              have ne' : Py.eqT xs[j] ys[j] = false := by
                unfold eJ at ne
                rw [List.getElem?_eq_getElem g1, List.getElem?_eq_getElem g2] at ne
                exact ne
              obtain ⟨o', ho⟩ := ordL_at h (List.getElem?_eq_getElem g1) (List.getElem?_eq_getElem g2) ne'
              have re : rJ op xs ys j = ansO op o' := by
                unfold rJ
                rw [List.getElem?_eq_getElem g1, List.getElem?_eq_getElem g2]
                simp [ho]
              rw [re]
              have u1 : A.in1.units = A.units + 1 := rfl
              exact rc_trees hop xs ys A.in1 s p1' p2' (by rw [u1]; omega) j g1 g2 v1 v2 b1 b2 o' q1 q2 ho)
          rw [l1, l2, lex_ord xs ys o h] at key
          exact key
    | _ => simp [Py.ordT] at h
  | .non, _, _, _, _, _, _, _, _, _, _, _, _, h, _ => by simp [Py.ordT] at h
  | .bl _, _, _, _, _, _, _, _, _, _, _, _, _, h, _ => by simp [Py.ordT] at h
  | .lst _, _, _, _, _, _, _, _, _, _, _, _, _, h, _ => by simp [Py.ordT] at h
  | .dct _, _, _, _, _, _, _, _, _, _, _, _, _, h, _ => by simp [Py.ordT] at h
  | .set _, _, _, _, _, _, _, _, _, _, _, _, _, h, _ => by simp [Py.ordT] at h
  | .cup, _, _, _, _, _, _, _, _, _, _, _, _, h, _ => by simp [Py.ordT] at h
theorem rc_trees {op : CmpOp} (hop : isOrd op = true) : ∀ (xs ys : List Tr) (A : Around) (s : Shared), Py.plainL xs = true → Py.plainL ys = true → A.units + min (Py.depL xs) (Py.depL ys) < cLine → ∀ (j : Nat) (g1 : j < xs.length) (g2 : j < ys.length) (v w : Value) (as bs : List Addr) (o : Ordering), Reads s.heap v (toD xs[j]) as → Reads s.heap w (toD ys[j]) bs → Py.ordT xs[j] ys[j] = some o → Ob.RcOp op A s v w (ansO op o)
  | [], _, _, _, _, _, _, _, g, _, _, _, _, _, _, _, _, _ => absurd g (Nat.not_lt_zero _)
  | _ :: _, [], _, _, _, _, _, _, _, g, _, _, _, _, _, _, _, _ => absurd g (Nat.not_lt_zero _)
  | x :: xs, y :: ys, A, s, p, q, hd, 0, _, _, v, w, as, bs, o, r1, r2, h => by
    have p' : Py.plain x = true ∧ Py.plainL xs = true := by simpa [Py.plainL] using p
    have q' : Py.plain y = true ∧ Py.plainL ys = true := by simpa [Py.plainL] using q
    simp only [Py.depL] at hd
    exact rc_tree hop x y o A s v w as bs r1 r2 p'.1 q'.1 h (by omega)
  | x :: xs, y :: ys, A, s, p, q, hd, j + 1, g1, g2, v, w, as, bs, o, r1, r2, h => by
    have p' : Py.plain x = true ∧ Py.plainL xs = true := by simpa [Py.plainL] using p
    have q' : Py.plain y = true ∧ Py.plainL ys = true := by simpa [Py.plainL] using q
    simp only [Py.depL] at hd
    exact rc_trees hop xs ys A s p'.2 q'.2 (by omega) j (by simpa using g1) (by simpa using g2) v w as bs o (by simpa using r1) (by simpa using r2) (by simpa using h)
end
end Snd

set_option Elab.async false
set_option linter.all false
set_option maxRecDepth 100000
set_option maxHeartbeats 2000000
namespace Snd
open PySem PySem.Spec L2
open PyProof.Rows hiding St
section
variable {X : L2.Cx} {c : Addr}
def bopOf : Py.Bop → Operator
  | .add => .Add
  | .sub => .Sub
  | .mul => .Mult
  | .fdiv => .FloorDiv
  | .mod => .Mod
  | .pow => .Pow
theorem lim_line : Py.lim = sizeLine := by rw [sizeLine_eq]
theorem mkTup_wp {xs : List Tr} {Q : Tr → Prop} (h : WP (Py.mkTup xs) Q) : xs.length ≤ sizeLine ∧ Q (.tup xs) := by
  unfold Py.mkTup at h
  obtain ⟨h1, h2⟩ := wp_ifs h
  exact ⟨by rw [← lim_line]; exact h1, h2⟩
theorem mkLst_wp {xs : List Tr} {Q : Tr → Prop} (h : WP (Py.mkLst xs) Q) : xs.length ≤ sizeLine ∧ Q (.lst xs) := by
  unfold Py.mkLst at h
  obtain ⟨h1, h2⟩ := wp_ifs h
  exact ⟨by rw [← lim_line]; exact h1, h2⟩
/-- an operation on two trees that hands on something new -/
def r2F (K : PySem.W.Frag) (c : Addr) (f : Tr → Tr → Py.M Tr) : R2 := fun x y H Q => ∃ (B : Bn) (t u : Tr), Here B c H ∧ RepW K H B c t x ∧ RepW K H B c u y ∧ WP (f t u) (AftF K B c H Q)
theorem op_addT : OpR X (binaryOp .Add) (r2F X.K c (Py.opM .add)) := by
  intro pins s σ H x y v u Q I rx ry ⟨B, t, t', hH, h1, h2, hw⟩
  cases t with
  | int i => cases t' with
    | int j =>
      have e1 := wInt h1; subst e1
      have e2 := wInt h2; subst e2
      have hw' : AftF X.K B c H Q (.int (i + j)) := hw
      exact op_add pins s σ H _ _ v u Q I rx ry ⟨i, j, rfl, rfl, hw'.same hH (show Rep X.K H B c _ _ from repI)⟩
    | _ => exact False.elim hw
  | tup xs => cases t' with
    | tup ys =>
      obtain ⟨a, vs, rfl, na, sa, la⟩ := wTup h1
      obtain ⟨b, ws, rfl, nb, sb, lb⟩ := wTup h2
      obtain ⟨hz, hq⟩ := mkTup_wp (show WP (Py.mkTup (xs ++ ys)) (AftF X.K B c H Q) from hw)
      have z1 := la.length
      have z2 := lb.length
      refine op_catA pins s σ H _ _ v u Q I rx ry ⟨a, b, vs, ws, rfl, rfl, .inl (.inl sa), .inl (.inl sb), by simpa [z1, z2] using hz, fun e => ?_, fun e1 e2 => ?_, fun e1 e2 p hp => ?_⟩
      · have e' : xs = [] := by cases xs with
          | nil => rfl
          | cons _ _ => rw [e] at z1; simp at z1
        subst e'
        exact hq.same hH (show Rep X.K H B c _ _ by simp only [Rep]; exact ⟨b, ws, rfl, nb, sb, by simpa using lb⟩)
      · have e' : ys = [] := by cases ys with
          | nil => rfl
          | cons _ _ => rw [e2] at z2; simp at z2
        subst e'
        exact hq.same hH (show Rep X.K H B c _ _ by simp only [Rep]; exact ⟨a, vs, rfl, na, sa, by simpa using la⟩)
      · exact hq.newT hH hp (la.append lb)
    | _ => exact False.elim hw
  | lst xs => cases t' with
    | lst ys =>
      obtain ⟨a, vs, rfl, na, sa, la⟩ := wLst h1
      obtain ⟨b, ws, rfl, nb, sb, lb⟩ := wLst h2
      obtain ⟨hz, hq⟩ := mkLst_wp (show WP (Py.mkLst (xs ++ ys)) (AftF X.K B c H Q) from hw)
      have z1 := la.length
      have z2 := lb.length
      exact op_cat pins s σ H _ _ v u Q I rx ry ⟨a, b, vs, ws, rfl, rfl, sa, sb, by simpa [z1, z2] using hz, fun p hp => hq.newL hH hp (la.append lb)⟩
    | _ => exact False.elim hw
  | str xs => cases t' with
    | str ys =>
      have e1 := wStr h1; subst e1
      have e2 := wStr h2; subst e2
      obtain ⟨hz, hq⟩ := wp_ifs (show WP (if xs.length + ys.length ≤ Py.lim then .ret (.str (xs ++ ys)) else .stuck) (AftF X.K B c H Q) from hw)
      refine op_add_str pins s σ H _ _ v u Q I rx ry ⟨_, _, rfl, rfl, ?_, ?_⟩
      · rw [← lim_line]
        show (xs.toArray).size + (ys.toArray).size ≤ _
        simpa using hz
      · have e : ((⟨xs.toArray⟩ : Str) ++ ⟨ys.toArray⟩) = ⟨(xs ++ ys).toArray⟩ := str_ext (by
          show ((xs.toArray) ++ (ys.toArray)).toList = _
          simp)
        rw [e]
        exact AftF.same (show AftF X.K B c H Q (.str (xs ++ ys)) from hq) hH (show Rep X.K H B c _ _ from repS)
    | _ => exact False.elim hw
  | _ => exact False.elim hw
theorem op_subT : OpR X (binaryOp .Sub) (r2F X.K c (Py.opM .sub)) := by
  intro pins s σ H x y v u Q I rx ry ⟨B, t, t', hH, h1, h2, hw⟩
  cases t with
  | int i => cases t' with
    | int j =>
      have e1 := wInt h1; subst e1
      have e2 := wInt h2; subst e2
      have hw' : AftF X.K B c H Q (.int (i - j)) := hw
      exact op_sub pins s σ H _ _ v u Q I rx ry ⟨i, j, rfl, rfl, hw'.same hH (show Rep X.K H B c _ _ from repI)⟩
    | _ => exact False.elim hw
  | _ => exact False.elim hw
theorem tuple_mul1 (l : Addr) (items : Array Value) (n : Nat) (dd : Option Addr) (sl : Array (Option Value)) (u : Tok) :
    Meets (Builtin.«tuple.__mul__» ⟨[.ref l, .int 1 u], []⟩) (fun _ R s => s.heap.get? l = some { cls := .type "tuple", dict := dd, data := .seq items n, slots := sl } ∧ R (.ok (.ret (Value.ref l))) s) :=
  .of_wp fun prog w A R s h => by
    obtain ⟨hp, g, d, tk, os⟩ := s
    obtain ⟨hl, h⟩ := h
    have f1 := AutoSeq1.idx_int
    have c1 : (items.isEmpty || ((1 : Int) == 1)) = true := by simp
    wp_walk using wpAny_loadPart' hl
    repeat (first
      | (refine wpAny_ite_false (by decide) ?_; wp_walk using wpAny_loadPart' hl)
      | (refine wpAny_ite_true (by rw [c1]) ?_; wp_walk using wpAny_loadPart' hl))
    exact ⟨_, rfl, h⟩
theorem op_repT1 {X : L2.Cx} : OpR X (binaryOp .Mult) (fun x y H Q => ∃ l xs, x = .ref l ∧ y = .int 1 ∧ SqT X.K H l xs ∧ Q (.ref l) H) := by
  intro pins s σ H x y v u Q I rx ry h
  obtain ⟨l, xs, rfl, rfl, hT, q⟩ := h
  cases rx
  obtain ⟨t, rfl⟩ := ry
  obtain ⟨its, r, ⟨⟨cls, dd, data, sl⟩, ho, hc, n, hd⟩, hs⟩ := I.tuple hT
  simp only at hc hd
  subst hc hd
  exact wpAny_binaryOp_repeat_ref (T := "tuple") (U := "int") (by decide) ⟨_, ho, rfl⟩ (fun s' => typeIs_int s' 1 t) noFill_tuple_mul F.fills_int_mul F.slot_int_rmul repeat_tuple F.slot_int_index.lookup
    (call_meets F.slot_int_rmul (typeIs_int s 1 t) F.entry_int_rmul (F.args_int_rmul_2 _ _) (int_rmul_tuple 1 t l its.toArray n dd sl)
      ⟨ho, rfl, ⟨_, ho, rfl⟩, call_meets F.slot_tuple_mul ⟨_, ho, rfl⟩ F.entry_tuple_mul (F.args_tuple_mul_2 _ _) (tuple_mul1 l its.toArray n dd sl t) ⟨ho, .ref l, H, I, rfl, q⟩⟩)
theorem tuple_mul0e (l : Addr) (items : Array Value) (n : Nat) (dd : Option Addr) (sl : Array (Option Value)) (u : Tok) (he : items.isEmpty = true) :
    Meets (Builtin.«tuple.__mul__» ⟨[.ref l, .int 0 u], []⟩) (fun _ R s => s.heap.get? l = some { cls := .type "tuple", dict := dd, data := .seq items n, slots := sl } ∧ R (.ok (.ret (Value.ref l))) s) :=
  .of_wp fun prog w A R s h => by
    obtain ⟨hp, g, d, tk, os⟩ := s
    obtain ⟨hl, h⟩ := h
    have f1 := AutoSeq1.idx_int
    have c1 : (items.isEmpty || ((0 : Int) == 1)) = true := by rw [he]; rfl
    wp_walk using wpAny_loadPart' hl
    repeat (first
      | (refine wpAny_ite_false (by decide) ?_; wp_walk using wpAny_loadPart' hl)
      | (refine wpAny_ite_true (by rw [c1]) ?_; wp_walk using wpAny_loadPart' hl))
    exact ⟨_, rfl, h⟩
theorem tuple_mul0 (l : Addr) (items : Array Value) (n : Nat) (dd : Option Addr) (sl : Array (Option Value)) (u : Tok) (he : items.isEmpty = false) :
    Meets (Builtin.«tuple.__mul__» ⟨[.ref l, .int 0 u], []⟩) (fun _ R s => s.heap.get? l = some { cls := .type "tuple", dict := dd, data := .seq items n, slots := sl } ∧
      R (.ok (.ret (Value.ref s.heap.objs.size))) { s with heap := s.heap.push { cls := Value.type "tuple", data := Data.seq #[] }, toks := s.toks }) :=
  .of_wp fun prog w A R s h => by
    obtain ⟨hp, g, d, tk, os⟩ := s
    obtain ⟨hl, h⟩ := h
    have f1 := AutoSeq1.idx_int
    have c1 : (items.isEmpty || ((0 : Int) == 1)) = false := by rw [he]; rfl
    have c2 : (decide ((0 : Int) ≤ 0) || items.isEmpty) = true := by rw [he]; rfl
    have hsz : (#[] : Array Value).size ≤ sizeLine := by rw [sizeLine_eq]; decide
    wp_walk using wpAny_loadPart' hl
    repeat (first
      | (refine wpAny_ite_false (by decide) ?_; wp_walk using wpAny_loadPart' hl)
      | (refine wpAny_ite_false (decide_eq_false (by rw [c1]; exact Bool.false_ne_true)) ?_; wp_walk using wpAny_loadPart' hl)
      | (refine wpAny_ite_true (by rw [c2]) ?_; wp_walk using wpAny_loadPart' hl)
      | (refine wpAny_ite_false (decide_eq_false (Nat.not_lt.mpr hsz)) ?_; wp_walk using wpAny_loadPart' hl))
    exact ⟨_, rfl, h⟩
theorem op_repT0 {X : L2.Cx} : OpR X (binaryOp .Mult) (fun x y H Q => ∃ l xs, x = .ref l ∧ y = .int 0 ∧ SqT X.K H l xs ∧ (xs = [] → Q (.ref l) H) ∧ ∀ p, H p = none → Q (.ref p) (upd H p (.tup []))) := by
  intro pins s σ H x y v u Q I rx ry h
  obtain ⟨l, xs, rfl, rfl, hT, q0, q⟩ := h
  cases rx
  obtain ⟨t, rfl⟩ := ry
  obtain ⟨its, r, ⟨⟨cls, dd, data, sl⟩, ho, hc, n, hd⟩, hs⟩ := I.tuple hT
  simp only at hc hd
  subst hc hd
  have hle : its.length = xs.length := r.length.symm
  refine wpAny_binaryOp_repeat_ref (T := "tuple") (U := "int") (by decide) ⟨_, ho, rfl⟩ (fun s' => typeIs_int s' 0 t) noFill_tuple_mul F.fills_int_mul F.slot_int_rmul repeat_tuple F.slot_int_index.lookup
    (call_meets F.slot_int_rmul (typeIs_int s 0 t) F.entry_int_rmul (F.args_int_rmul_2 _ _) (int_rmul_tuple 0 t l its.toArray n dd sl)
      ⟨ho, rfl, ⟨_, ho, rfl⟩, ?_⟩)
  cases its with
  | nil =>
    have hx : xs = [] := List.eq_nil_of_length_eq_zero hle.symm
    exact call_meets F.slot_tuple_mul ⟨_, ho, rfl⟩ F.entry_tuple_mul (F.args_tuple_mul_2 _ _) (tuple_mul0e l _ n dd sl t rfl) ⟨ho, .ref l, H, I, rfl, q0 hx⟩
  | cons a b =>
    refine call_meets F.slot_tuple_mul ⟨_, ho, rfl⟩ F.entry_tuple_mul (F.args_tuple_mul_2 _ _) (tuple_mul0 l _ n dd sl t rfl) ⟨ho, ?_⟩
    refine ⟨.ref s.heap.objs.size, _, I.laid (t' := s.toks) (o := .tup []) (fun b ob q => Heap.get?_push_of_some _ q) (Nat.le_refl _) ?_, rfl, q _ (I.hok.fresh (Nat.le_refl _))⟩
    exact ⟨by rw [sizeLine_eq]; decide, [], .nil, IsTup.new _ _⟩
theorem op_mulT : OpR X (binaryOp .Mult) (r2F X.K c (Py.opM .mul)) := by
  intro pins s σ H x y v u Q I rx ry ⟨B, t, t', hH, h1, h2, hw⟩
  cases t with
  | int i => cases t' with
    | int j =>
      have e1 := wInt h1; subst e1
      have e2 := wInt h2; subst e2
      obtain ⟨hz, hq⟩ := wp_ifs (show WP (if Py.okMul i j = true then .ret (.int (i * j)) else .stuck) (AftF X.K B c H Q) from hw)
      refine op_mul pins s σ H _ _ v u Q I rx ry ⟨i, j, rfl, rfl, ?_, AftF.same (show AftF X.K B c H Q (.int (i * j)) from hq) hH (show Rep X.K H B c _ _ from repI)⟩
      unfold Py.okMul at hz
      simp only [Bool.or_eq_true, Bool.and_eq_true, decide_eq_true_eq] at hz
      unfold CMul
      rcases hz with z | z
      · exact .inl ⟨by have := z.1; omega, by have := z.2; omega⟩
      · exact .inr ⟨by have := z.1; omega, by have := z.2; omega⟩
    | _ => exact False.elim hw
  | tup xs => cases t' with
    | int k =>
      obtain ⟨a, vs, rfl, na, sa, la⟩ := wTup h1
      have e2 := wInt h2; subst e2
      have hw : WP (if k = 1 then .ret (.tup xs) else if k = 0 then .ret (.tup []) else if 2 ≤ k ∧ k ≤ 1000 ∧ xs.length ≤ 1000 ∧ xs ≠ [] then .ret (.tup (List.replicate k.toNat xs).flatten) else .stuck) (AftF X.K B c H Q) := hw
      by_cases k1 : k = 1
      · rw [if_pos k1] at hw
        subst k1
        exact op_repT1 pins s σ H _ _ v u Q I rx ry ⟨a, vs, rfl, rfl, .inl (.inl sa), AftF.same (show AftF X.K B c H Q (.tup xs) from hw) hH (show Rep X.K H B c (.tup xs) (.ref a) from h1)⟩
      rw [if_neg k1] at hw
      by_cases k0 : k = 0
      · rw [if_pos k0] at hw
        subst k0
        exact op_repT0 pins s σ H _ _ v u Q I rx ry ⟨a, vs, rfl, rfl, .inl (.inl sa), fun e => AftF.same (show AftF X.K B c H Q (.tup []) from hw) hH (by
          subst e
          have := la.length
          cases xs with
          | nil => exact (show Rep X.K H B c (.tup []) (.ref a) from h1)
          | cons _ _ => simp at this), fun p hp => AftF.newT (show AftF X.K B c H Q (.tup []) from hw) hH hp RepL.nil⟩
      rw [if_neg k0] at hw
      obtain ⟨⟨z1, z2, z3, z4⟩, hq⟩ := wp_ifs hw
      have l1 := la.length
      refine op_repT pins s σ H _ _ v u Q I rx ry ⟨a, k, vs, rfl, rfl, .inl (.inl sa), fun e => ?_, z1, z2, by omega, fun p hp => AftF.newT (show AftF X.K B c H Q (.tup (List.replicate k.toNat xs).flatten) from hq) hH hp (la.rep _)⟩
      subst e
      exact z4 (by cases xs with
        | nil => rfl
        | cons _ _ => simp at l1)
    | _ => exact False.elim hw
  | lst xs => cases t' with
    | int k =>
      obtain ⟨a, vs, rfl, na, sa, la⟩ := wLst h1
      have e2 := wInt h2; subst e2
      obtain ⟨⟨z1, z2, z3⟩, hq⟩ := wp_ifs (show WP (if -(2 ^ 63) ≤ k ∧ k < 2 ^ 63 ∧ xs.length * k.toNat ≤ Py.lim then .ret (.lst (List.replicate k.toNat xs).flatten) else .stuck) (AftF X.K B c H Q) from hw)
      have l1 := la.length
      exact op_rep pins s σ H _ _ v u Q I rx ry ⟨a, k, vs, rfl, rfl, sa, z1, z2, by rw [← l1, ← lim_line]; exact z3, fun p hp => AftF.newL (show AftF X.K B c H Q (.lst (List.replicate k.toNat xs).flatten) from hq) hH hp (la.rep _)⟩
    | _ => exact False.elim hw
  | _ => exact False.elim hw
theorem op_fdivT : OpR X (binaryOp .FloorDiv) (r2F X.K c (Py.opM .fdiv)) := by
  intro pins s σ H x y v u Q I rx ry ⟨B, t, t', hH, h1, h2, hw⟩
  cases t with
  | int i => cases t' with
    | int j =>
      have e1 := wInt h1; subst e1
      have e2 := wInt h2; subst e2
      obtain ⟨hz, hq⟩ := wp_ifs (show WP (if 0 < j ∧ j < 1073741824 then .ret (.int (i / j)) else .stuck) (AftF X.K B c H Q) from hw)
      exact op_fdiv pins s σ H _ _ v u Q I rx ry ⟨i, j, rfl, rfl, hz, AftF.same (show AftF X.K B c H Q (.int (i / j)) from hq) hH (show Rep X.K H B c _ _ from repI)⟩
    | _ => exact False.elim hw
  | _ => exact False.elim hw
theorem op_modT : OpR X (binaryOp .Mod) (r2F X.K c (Py.opM .mod)) := by
  intro pins s σ H x y v u Q I rx ry ⟨B, t, t', hH, h1, h2, hw⟩
  cases t with
  | int i => cases t' with
    | int j =>
      have e1 := wInt h1; subst e1
      have e2 := wInt h2; subst e2
      obtain ⟨hz, hq⟩ := wp_ifs (show WP (if 0 < j then .ret (.int (i % j)) else .stuck) (AftF X.K B c H Q) from hw)
      exact op_mod pins s σ H _ _ v u Q I rx ry ⟨i, j, rfl, rfl, hz, AftF.same (show AftF X.K B c H Q (.int (i % j)) from hq) hH (show Rep X.K H B c _ _ from repI)⟩
    | _ => exact False.elim hw
  | _ => exact False.elim hw
theorem op_powT : OpR X (binaryOp .Pow) (r2F X.K c (Py.opM .pow)) := by
  intro pins s σ H x y v u Q I rx ry ⟨B, t, t', hH, h1, h2, hw⟩
  cases t with
  | int i => cases t' with
    | int j =>
      have e1 := wInt h1; subst e1
      have e2 := wInt h2; subst e2
      obtain ⟨⟨z1, z2, z3⟩, hq⟩ := wp_ifs (show WP (if 0 ≤ j ∧ j ≤ 1000000 ∧ i.natAbs < 18446744073709551616 then .ret (.int (i ^ j.toNat)) else .stuck) (AftF X.K B c H Q) from hw)
      exact op_pow pins s σ H _ _ v u Q I rx ry ⟨i, j, rfl, rfl, ⟨z1, z2, by omega⟩, AftF.same (show AftF X.K B c H Q (.int (i ^ j.toNat)) from hq) hH (show Rep X.K H B c _ _ from repI)⟩
    | _ => exact False.elim hw
  | _ => exact False.elim hw
theorem op_bin (o : Py.Bop) : OpR X (binaryOp (bopOf o)) (r2F X.K c (Py.opM o)) := by
  cases o
  · exact op_addT
  · exact op_subT
  · exact op_mulT
  · exact op_fdivT
  · exact op_modT
  · exact op_powT

def copOf : Py.Cop → CmpOp
  | .eq => .Eq
  | .ne => .NotEq
  | .lt => .Lt
  | .le => .LtE
  | .gt => .Gt
  | .ge => .GtE
  | .isin => .In
  | .nin => .NotIn
  | .is => .Is
  | .isnt => .IsNot
theorem op_eqT (hu : Roomy X) : OpR X (compareOp .Eq) (r2 X.K c (Py.cmpM .eq)) := by
  intro pins s σ H x y v u Q I rx ry ⟨B, t, t', hH, h1, h2, hw⟩
  obtain ⟨ok, hq⟩ := eqM_wp (f := fun r => .bl r) (show WP ((Py.eqM t t').bind fun r => .ret (.bl r)) (Aft X.K B c H Q) from hw)
  obtain ⟨p1, p2, d⟩ := eqOk_inv ok
  obtain ⟨as, r1⟩ := reads_of I h1 p1 rx
  obtain ⟨bs, r2⟩ := reads_of I h2 p2 ry
  have dm := depth_min d
  refine SeqAt.compareEq_reads r1 r2 (lay_toD p1) (lay_toD p2) (by omega) ⟨.bl _, H, I, rfl, ?_⟩
  rw [eqv_toD _ _ p1 p2]
  exact Aft.same hq hH repB
theorem op_neT (hu : Roomy X) : OpR X (compareOp .NotEq) (r2 X.K c (Py.cmpM .ne)) := by
  intro pins s σ H x y v u Q I rx ry ⟨B, t, t', hH, h1, h2, hw⟩
  obtain ⟨ok, hq⟩ := eqM_wp (f := fun r => .bl (!r)) (show WP ((Py.eqM t t').bind fun r => .ret (.bl (!r))) (Aft X.K B c H Q) from hw)
  obtain ⟨p1, p2, d⟩ := eqOk_inv ok
  obtain ⟨as, r1⟩ := reads_of I h1 p1 rx
  obtain ⟨bs, r2⟩ := reads_of I h2 p2 ry
  have dm := depth_min d
  refine SeqAt.compareNe_reads r1 r2 (lay_toD p1) (lay_toD p2) (by omega) ⟨.bl _, H, I, rfl, ?_⟩
  rw [eqv_toD _ _ p1 p2]
  exact Aft.same hq hH repB
theorem ordM_wp {t u : Tr} {f : Ordering → Tr} {Q : Tr → Prop} (h : WP ((Py.ordM t u).bind fun r => .ret (f r)) Q) : Py.eqOk t u = true ∧ ∃ o, Py.ordT t u = some o ∧ Q (f o) := by
  unfold Py.ordM at h
  cases e : Py.eqOk t u with
  | true =>
    rw [e] at h
    cases q : Py.ordT t u with
    | none => rw [q] at h; exact h.elim
    | some o => rw [q] at h; exact ⟨rfl, o, rfl, h⟩
  | false => rw [e] at h; exact h.elim
theorem op_ordT {op : CmpOp} (hop : isOrd op = true) (hu : Roomy X) (f : Tr → Tr → Py.M Tr) (hf : ∀ t u, f t u = (Py.ordM t u).bind fun o => .ret (.bl (ansO op o))) : OpR X (compareOp op) (r2 X.K c f) := by
  intro pins s σ H x y v u Q I rx ry ⟨B, t, t', hH, h1, h2, hw⟩
  rw [hf] at hw
  obtain ⟨ok, o, ho, hq⟩ := ordM_wp (f := fun o => .bl (ansO op o)) hw
  obtain ⟨p1, p2, d⟩ := eqOk_inv ok
  obtain ⟨as, r1⟩ := reads_of I h1 p1 rx
  obtain ⟨bs, r2⟩ := reads_of I h2 p2 ry
  have key := rc_tree hop t t' o X.A s v u as bs r1 r2 p1 p2 ho (by omega)
  have e : compareOp op v u = richCompare op v u := by cases op <;> simp [isOrd] at hop <;> rfl
  rw [e]
  exact key X.prog X.w X.xe _ ⟨.bl _, H, I, rfl, Aft.same hq hH repB⟩
theorem isM_inv {t u : Tr} {f : Bool → Tr} {Q : Tr → Prop} (h : WP ((Py.isM t u).bind fun r => .ret (f r)) Q) : (u = .non ∧ Q (f (Py.isNon t))) ∨ ∃ a b, t = .bl a ∧ u = .bl b ∧ Q (f (a == b)) := by
  cases u with
  | non => exact .inl ⟨rfl, h⟩
  | bl b =>
    cases t with
    | bl a => exact .inr ⟨a, b, rfl, rfl, h⟩
    | _ => exact False.elim h
  | _ => exact False.elim h
theorem non_iff {K : PySem.W.Frag} {H : Hp} {B : Bn} {t : Tr} {x : V} (r : RepW K H B c t x) : decide (x = .non) = Py.isNon t := by
  cases t with
  | non => have e := wNon r; subst e; rfl
  | bl _ => have e := wBl r; subst e; rfl
  | int _ => have e := wInt r; subst e; rfl
  | str _ => have e := wStr r; subst e; rfl
  | cup => have e := wCup r; subst e; rfl
  | tup _ => obtain ⟨a, vs, rfl, _⟩ := wTup r; rfl
  | lst _ => obtain ⟨a, vs, rfl, _⟩ := wLst r; rfl
  | dct _ => obtain ⟨a, vs, rfl, _⟩ := r; rfl
  | set _ => simp only [RepW, Rep] at r
theorem op_isT : OpR X (compareOp .Is) (r2 X.K c (Py.cmpM .is)) := by
  intro pins s σ H x y v u Q I rx ry ⟨B, t, t', hH, h1, h2, hw⟩
  rcases isM_inv (f := fun r => .bl r) (show WP ((Py.isM t t').bind fun r => .ret (.bl r)) (Aft X.K B c H Q) from hw) with ⟨rfl, hq⟩ | ⟨a, b, rfl, rfl, hq⟩
  · have e2 := wNon h2; subst e2
    exact op_isN pins s σ H _ _ v u Q I rx ry ⟨rfl, by rw [non_iff h1]; exact Aft.same hq hH repB⟩
  · have e1 := wBl h1; subst e1
    have e2 := wBl h2; subst e2
    exact op_isBl pins s σ H _ _ v u Q I rx ry ⟨a, b, rfl, rfl, by rw [← Bool.beq_eq_decide_eq]; exact Aft.same hq hH repB⟩
theorem op_isntT : OpR X (compareOp .IsNot) (r2 X.K c (Py.cmpM .isnt)) := by
  intro pins s σ H x y v u Q I rx ry ⟨B, t, t', hH, h1, h2, hw⟩
  rcases isM_inv (f := fun r => .bl (!r)) (show WP ((Py.isM t t').bind fun r => .ret (.bl (!r))) (Aft X.K B c H Q) from hw) with ⟨rfl, hq⟩ | ⟨a, b, rfl, rfl, hq⟩
  · have e2 := wNon h2; subst e2
    exact op_notN pins s σ H _ _ v u Q I rx ry ⟨rfl, by rw [non_iff h1]; exact Aft.same hq hH repB⟩
  · have e1 := wBl h1; subst e1
    have e2 := wBl h2; subst e2
    exact op_notBl pins s σ H _ _ v u Q I rx ry ⟨a, b, rfl, rfl, by rw [← Bool.beq_eq_decide_eq]; exact Aft.same hq hH repB⟩
theorem any_toD : ∀ (xs : List Tr) (x : Tr), Py.plainL xs = true → Py.plain x = true → ((toDs xs).any fun z => PyData.eqv z (toD x)) = xs.any fun y => Py.eqT y x
  | [], _, _, _ => rfl
  | a :: xs, x, p, q => by
    have p' : Py.plain a = true ∧ Py.plainL xs = true := by simpa [Py.plainL] using p
    simp only [toDs, List.any_cons, eqv_toD a x p'.1 q, any_toD xs x p'.2 q]
/-- the answers of the items, read off the values -/
theorem eq_all {h : Heap} {A : Around} {s : Shared} (hs : s.heap = h) {x : Tr} {v : Value} {bs : List Addr} (rv : Reads h v (toD x) bs) (q : Py.plain x = true) : ∀ {xs : List Tr} {us : List Value} {as : List Addr}, ReadsAll h us (toDs xs) as → Py.plainL xs = true → A.units + min (Py.depL xs) (Py.dep x) < cLine →
    ∀ (j : Nat) (u : Value) (y : Tr), us[j]? = some u → xs[j]? = some y → SeqAt.EqAt A s u v (Py.eqT y x)
  | [], _, _, _, _, _, _, _, _, _, e => by simp at e
  | a :: xs, _, _, .cons r rs, p, hd, 0, u, y, e1, e2 => by
    have p' : Py.plain a = true ∧ Py.plainL xs = true := by simpa [Py.plainL] using p
    simp at e1 e2
    subst e1; subst e2
    rw [← eqv_toD a x p'.1 q]
    refine SeqAt.eqAt_reads _ _ A s _ _ _ _ (by rw [hs]; exact r) (by rw [hs]; exact rv) (lay_toD p'.1) (lay_toD q) ?_
    have d1 := dep_toD a
    have d2 := dep_toD x
    simp only [Py.depL] at hd
    omega
  | a :: xs, _, _, .cons _ rs, p, hd, j + 1, u, y, e1, e2 => by
    have p' : Py.plain a = true ∧ Py.plainL xs = true := by simpa [Py.plainL] using p
    simp only [Py.depL] at hd
    exact eq_all hs rv q rs p'.2 (by omega) j u y (by simpa using e1) (by simpa using e2)
end
end Snd

set_option Elab.async false
set_option linter.all false
set_option maxRecDepth 100000
set_option maxHeartbeats 2000000
namespace Snd
open PySem PySem.Spec L2
open PyProof.Rows hiding St

theorem kT_eq (a b : Key) : Py.eqT (kT a) (kT b) = decide (a = b) := by
  cases a with
  | inl i => cases b with
    | inl j =>
      simp only [kT, Py.eqT]
      by_cases e : i = j
      · subst e; simp
      · simp [e]
    | inr s => simp [kT, Py.eqT]
  | inr s => cases b with
    | inl j => simp [kT, Py.eqT]
    | inr z =>
      simp only [kT, Py.eqT]
      by_cases e : s = z
      · subst e; simp
      · have h : ¬ s.cps.toList = z.cps.toList := fun q => e (str_ext q)
        rw [beq_eq_false_iff_ne.mpr h]
        exact (decide_eq_false (fun q => e (Sum.inr.inj q))).symm
theorem kTs_eq : ∀ (a b : List Key), Py.eqL (a.map kT) (b.map kT) = decide (a = b)
  | [], [] => rfl
  | [], _ :: _ => by simp [Py.eqL]
  | _ :: _, [] => by simp [Py.eqL]
  | x :: a, y :: b => by
    simp only [List.map_cons, Py.eqL, kT_eq, kTs_eq a b]
    by_cases e : x = y
    · subst e; simp
    · simp [e]
theorem kTt_eq (a b : List Key) : Py.eqT (kTs a) (kTs b) = decide (a = b) := by
  simp only [kTs, Py.eqT]; exact kTs_eq a b
theorem keyA_kT (k : Key) : Py.keyA (kT k) = true := by cases k <;> rfl
theorem keyA_kTs (k : List Key) : Py.keyA (kTs k) = false := rfl
theorem kT_of {t : Tr} (h : Py.keyA t = true) : ∃ k, t = kT k := by
  cases t with
  | int i => exact ⟨.inl i, rfl⟩
  | str s => exact ⟨.inr ⟨s.toArray⟩, by simp [kT]⟩
  | _ => simp [Py.keyA] at h
theorem kTs_of : ∀ {xs : List Tr}, (xs.all Py.keyA) = true → ∃ ks : List Key, xs = ks.map kT
  | [], _ => ⟨[], rfl⟩
  | x :: xs, h => by
    simp only [List.all_cons, Bool.and_eq_true] at h
    obtain ⟨k, rfl⟩ := kT_of h.1
    obtain ⟨ks, rfl⟩ := kTs_of h.2
    exact ⟨k :: ks, rfl⟩
theorem key_cases {t : Tr} (h : Py.keyOk t = true) : (∃ k, t = kT k) ∨ ∃ ks, t = kTs ks := by
  cases t with
  | int i => exact .inl ⟨.inl i, rfl⟩
  | str s => exact .inl ⟨.inr ⟨s.toArray⟩, by simp [kT]⟩
  | tup xs =>
    obtain ⟨ks, rfl⟩ := kTs_of (show xs.all Py.keyA = true by simpa [Py.keyOk] using h)
    exact .inr ⟨ks, rfl⟩
  | _ => simp [Py.keyOk] at h
section
variable {K : PySem.W.Frag} {H : Hp} {B : Bn} {c : Addr}
theorem rep_kT {k : Key} {v : V} : Rep K H B c (kT k) v ↔ v = kV k := by
  cases k with
  | inl i => simp only [kT, Rep, kV]
  | inr s =>
    simp only [kT, Rep, kV]
theorem repL_kT : ∀ {ks : List Key} {vs : List V}, RepL K H B c (ks.map kT) vs → vs = ks.map kV
  | [], _, r => r.inv_nil
  | k :: ks, _, r => by
    obtain ⟨v, w, rfl, h1, h2⟩ := r.inv_cons
    rw [rep_kT.mp h1, repL_kT h2]; rfl
theorem weak_kT {k : Key} {v : V} (r : RepW K H B c (kT k) v) : v = kV k := by
  cases k with
  | inl i => exact rep_kT.mp (show Rep K H B c (kT (.inl i)) v from r)
  | inr s => exact rep_kT.mp (show Rep K H B c (kT (.inr s)) v from r)
theorem weak_kTs {ks : List Key} {v : V} (r : RepW K H B c (kTs ks) v) : ∃ b, v = .ref b ∧ H b = some (.tup (ks.map kV)) := by
  obtain ⟨a, vs, rfl, n, s, l⟩ := wTup (xs := ks.map kT) r
  exact ⟨a, rfl, by rw [← repL_kT l]; exact s⟩
theorem RepV.length : ∀ {ts : List (Tr × Tr)} {vs : List V}, RepV K H B c ts vs → ts.length = vs.length
  | [], _, r => by simp only [RepV] at r; subst r; rfl
  | (_, t) :: ts, _, r => by
    simp only [RepV] at r
    obtain ⟨v, w, e, h1, h2⟩ := r
    subst e
    simp [RepV.length h2]
theorem RepV.inv_nil {vs : List V} (r : RepV K H B c [] vs) : vs = [] := by simpa only [RepV] using r
theorem RepV.inv_cons {k t : Tr} {ts : List (Tr × Tr)} {vs : List V} (r : RepV K H B c ((k, t) :: ts) vs) : ∃ v w, vs = v :: w ∧ Rep K H B c t v ∧ RepV K H B c ts w := by simpa only [RepV] using r
theorem RepV.cons {k t : Tr} {ts : List (Tr × Tr)} {v : V} {vs : List V} (h : Rep K H B c t v) (r : RepV K H B c ts vs) : RepV K H B c ((k, t) :: ts) (v :: vs) := by
  simp only [RepV]; exact ⟨v, vs, rfl, h, r⟩
section
variable {κ : Type} [DecidableEq κ] {f : κ → Tr} (hf : ∀ a b, Py.eqT (f a) (f b) = decide (a = b))
include hf
theorem tab_get (k : κ) : ∀ {kvs : List (Tr × Tr)} {ks : List κ} {vs : List V}, kvs.map (·.1) = ks.map f → RepV K H B c kvs vs →
    (∃ t v, Py.dget kvs (f k) = some t ∧ valV (ks.zip vs) k = some v ∧ Rep K H B c t v) ∨ (Py.dget kvs (f k) = none ∧ valV (ks.zip vs) k = none)
  | [], ks, vs, _, r => by
    have e := r.inv_nil
    subst e
    right
    exact ⟨rfl, by cases ks <;> rfl⟩
  | (t, x) :: kvs, [], _, e, _ => by simp at e
  | (t, x) :: kvs, j :: ks, vs, e, r => by
    obtain ⟨v, w, rfl, h1, h2⟩ := r.inv_cons
    simp only [List.map_cons, List.cons.injEq] at e
    have e1 : t = f j := e.1
    by_cases q : j = k
    · left
      refine ⟨x, v, ?_, ?_, h1⟩
      · unfold Py.dget
        rw [List.find?_cons_of_pos (by simp only [e1, hf, q]; simp)]; rfl
      · rw [List.zip_cons_cons]; exact valV_pos q
    · have a1 : Py.dget ((t, x) :: kvs) (f k) = Py.dget kvs (f k) := by
        unfold Py.dget
        rw [List.find?_cons_of_neg (by simp only [e1, hf, q]; simp)]
      have a2 : valV ((j :: ks).zip (v :: w)) k = valV (ks.zip w) k := by rw [List.zip_cons_cons]; exact valV_neg q
      rw [a1, a2]
      exact tab_get k e.2 h2
theorem tab_any (k : κ) : ∀ {kvs : List (Tr × Tr)} {ks : List κ} {vs : List V}, ks.length = vs.length → kvs.map (·.1) = ks.map f → (kvs.any fun p => Py.eqT p.1 (f k)) = ((ks.zip vs).any fun kv => decide (kv.1 = k))
  | [], [], _, _, _ => by simp
  | [], _ :: _, _, _, e => by simp at e
  | _ :: _, [], _, _, e => by simp at e
  | (t, x) :: kvs, j :: ks, [], l, _ => by simp at l
  | (t, x) :: kvs, j :: ks, v :: vs, l, e => by
    simp only [List.map_cons, List.cons.injEq] at e
    have e1 : t = f j := e.1
    rw [List.zip_cons_cons, List.any_cons, List.any_cons, tab_any k (by simpa using l) e.2, e1]
    simp only [hf]
theorem tab_map (k : κ) {y : Tr} {z : V} (hy : Rep K H B c y z) : ∀ {kvs : List (Tr × Tr)} {ks : List κ} {vs : List V}, ks.length = vs.length → kvs.map (·.1) = ks.map f → RepV K H B c kvs vs →
    ∃ vs' : List V, (ks.zip vs).map (fun kv => if kv.1 = k then (kv.1, z) else kv) = ks.zip vs' ∧ ks.length = vs'.length ∧ (kvs.map fun p => if Py.eqT p.1 (f k) then (p.1, y) else p).map (·.1) = ks.map f ∧ RepV K H B c (kvs.map fun p => if Py.eqT p.1 (f k) then (p.1, y) else p) vs'
  | [], [], vs, _, _, r => by
    have e := r.inv_nil
    subst e
    exact ⟨[], rfl, rfl, rfl, r⟩
  | [], _ :: _, _, _, e, _ => by simp at e
  | _ :: _, [], _, _, e, _ => by simp at e
  | (t, x) :: kvs, j :: ks, vs, l, e, r => by
    obtain ⟨v, w, rfl, h1, h2⟩ := r.inv_cons
    simp only [List.map_cons, List.cons.injEq] at e
    have e1 : t = f j := e.1
    subst e1
    obtain ⟨vs', a1, a2, a3, a4⟩ := tab_map k hy (by simpa using l) e.2 h2
    by_cases q : j = k
    · have q' : Py.eqT (f j) (f k) = true := by rw [hf]; exact decide_eq_true q
      refine ⟨z :: vs', ?_, by simpa using a2, ?_, ?_⟩
      · rw [List.zip_cons_cons, List.map_cons, a1, List.zip_cons_cons, if_pos q]
      · rw [List.map_cons, if_pos q', List.map_cons, List.map_cons, a3]
      · rw [List.map_cons, if_pos q']; exact .cons hy a4
    · have q' : ¬ Py.eqT (f j) (f k) = true := by rw [hf]; simp [q]
      refine ⟨v :: vs', ?_, by simpa using a2, ?_, ?_⟩
      · rw [List.zip_cons_cons, List.map_cons, a1, List.zip_cons_cons, if_neg q]
      · rw [List.map_cons, if_neg q', List.map_cons, List.map_cons, a3]
      · rw [List.map_cons, if_neg q']; exact .cons h1 a4
theorem tab_snoc (k : κ) {y : Tr} {z : V} (hy : Rep K H B c y z) : ∀ {kvs : List (Tr × Tr)} {ks : List κ} {vs : List V}, ks.length = vs.length → kvs.map (·.1) = ks.map f → RepV K H B c kvs vs →
    ks.zip vs ++ [(k, z)] = (ks ++ [k]).zip (vs ++ [z]) ∧ (kvs ++ [(f k, y)]).map (·.1) = (ks ++ [k]).map f ∧ RepV K H B c (kvs ++ [(f k, y)]) (vs ++ [z])
  | [], [], vs, _, _, r => by
    have e := r.inv_nil
    subst e
    exact ⟨rfl, rfl, .cons hy r⟩
  | [], _ :: _, _, _, e, _ => by simp at e
  | _ :: _, [], _, _, e, _ => by simp at e
  | (t, x) :: kvs, j :: ks, vs, l, e, r => by
    obtain ⟨v, w, rfl, h1, h2⟩ := r.inv_cons
    simp only [List.map_cons, List.cons.injEq] at e
    obtain ⟨a1, a2, a3⟩ := tab_snoc k hy (by simpa using l) e.2 h2
    refine ⟨by simp [a1], ?_, .cons h1 a3⟩
    simp only [List.cons_append, List.map_cons, a2, e.1]
theorem tab_put (k : κ) {y : Tr} {z : V} (hy : Rep K H B c y z) {kvs : List (Tr × Tr)} {ks : List κ} {vs : List V} (l : ks.length = vs.length) (e : kvs.map (·.1) = ks.map f) (r : RepV K H B c kvs vs) :
    ∃ (ks' : List κ) (vs' : List V), putK (ks.zip vs) k z = ks'.zip vs' ∧ ks'.length = vs'.length ∧ (Py.dput kvs (f k) y).map (·.1) = ks'.map f ∧ RepV K H B c (Py.dput kvs (f k) y) vs' := by
  unfold putK Py.dput
  rw [tab_any hf k (vs := vs) l e]
  by_cases q : ((ks.zip vs).any fun kv => decide (kv.1 = k)) = true
  · rw [if_pos q, if_pos q]
    obtain ⟨vs', a1, a2, a3, a4⟩ := tab_map hf k hy l e r
    exact ⟨ks, vs', a1, a2, a3, a4⟩
  · rw [if_neg q, if_neg q]
    obtain ⟨a1, a2, a3⟩ := tab_snoc hf k hy l e r
    exact ⟨ks ++ [k], vs ++ [z], a1, by simp [l], a2, a3⟩
theorem tab_drop (k : κ) : ∀ {kvs : List (Tr × Tr)} {ks : List κ} {vs : List V}, ks.length = vs.length → kvs.map (·.1) = ks.map f → RepV K H B c kvs vs →
    ∃ (ks' : List κ) (vs' : List V), dropK (ks.zip vs) k = ks'.zip vs' ∧ ks'.length = vs'.length ∧ (Py.ddel kvs (f k)).map (·.1) = ks'.map f ∧ RepV K H B c (Py.ddel kvs (f k)) vs'
  | [], [], vs, _, _, r => by
    have e := r.inv_nil
    subst e
    exact ⟨[], [], rfl, rfl, rfl, r⟩
  | [], _ :: _, _, _, e, _ => by simp at e
  | _ :: _, [], _, _, e, _ => by simp at e
  | (t, x) :: kvs, j :: ks, vs, l, e, r => by
    obtain ⟨v, w, rfl, h1, h2⟩ := r.inv_cons
    simp only [List.map_cons, List.cons.injEq] at e
    have e1 : t = f j := e.1
    subst e1
    obtain ⟨ks', vs', a1, a2, a3, a4⟩ := tab_drop k (by simpa using l) e.2 h2
    unfold dropK Py.ddel at *
    by_cases q : j = k
    · have q' : (!Py.eqT (f j) (f k)) = false := by rw [hf, decide_eq_true q]; rfl
      refine ⟨ks', vs', ?_, a2, ?_, ?_⟩
      · rw [List.zip_cons_cons, List.filter_cons_of_neg (by simp [q])]; exact a1
      · rw [List.filter_cons_of_neg (by simp [q'])]; exact a3
      · rw [List.filter_cons_of_neg (by simp [q'])]; exact a4
    · have q' : (!Py.eqT (f j) (f k)) = true := by rw [hf, decide_eq_false q]; rfl
      refine ⟨j :: ks', v :: vs', ?_, by simp [a2], ?_, ?_⟩
      · rw [List.zip_cons_cons, List.filter_cons_of_pos (by simp [q]), a1]; rfl
      · rw [List.filter_cons_of_pos (by simp [q']), List.map_cons, List.map_cons, a3]
      · rw [List.filter_cons_of_pos (by simp [q'])]; exact .cons h1 a4
end
/-- an empty dict is of both kinds -/
theorem empty_KT {P : Program} {w : World} {H H' : Hp} {h : Heap} {a : Addr} (x : ObjOk P w H h a (.dK [])) : ObjOk P w H' h a (.dT []) := by
  obtain ⟨z, y, vs, r, o, es, ep, e, ex, d, k, p, n⟩ := x
  cases r
  have hes : es.toList = [] := by
    cases q : es.toList with
    | nil => rfl
    | cons _ _ => rw [q] at p; cases p
  exact ⟨Nat.zero_le _, y, [], .nil, o, es, ep, e, ex, d, by rw [hes]; rfl, List.nodup_nil⟩
theorem empty_TK {P : Program} {w : World} {H H' : Hp} {h : Heap} {a : Addr} (x : ObjOk P w H h a (.dT [])) : ObjOk P w H' h a (.dK []) := by
  obtain ⟨z, y, xs, r, o, es, ep, e, ex, d, q, n⟩ := x
  cases r
  have hes : es = #[] := by
    apply Array.toList_inj.mp
    rw [q]; rfl
  subst hes
  refine ⟨Nat.zero_le _, y, [], .nil, o, #[], ep, e, ex, d, ?_, ?_, List.nodup_nil⟩
  · intro e he; simp at he
  · exact .nil
theorem Inv.swapKT {X : L2.Cx} {pins : List (Addr × Obj)} {σ : L2.St} {s : Shared} {a : Addr} (I : Inv X pins σ H s) (h : H a = some (.dK [])) : Inv X pins σ (upd H a (.dT [])) s := by
  have new := empty_KT (H' := upd H a (.dT [])) (I.hok a _ h)
  obtain ⟨o, ho⟩ : ∃ o, s.heap.get? a = some o := by
    obtain ⟨_, _, _, _, o, _, _, e, _⟩ := I.hok a _ h
    exact ⟨o, e⟩
  exact Inv.un (t' := s.toks) I (Un.write (x := a) (e := a) (by rw [h]; trivial) (.inl rfl) (fun b u _ e => e) ⟨o, ho⟩)
    (HOk.write (e := a) I.hok (by rw [h]; trivial) (.inl rfl) (fun b u _ e => e) ⟨o, ho⟩ new)
theorem Inv.swapTK {X : L2.Cx} {pins : List (Addr × Obj)} {σ : L2.St} {s : Shared} {a : Addr} (I : Inv X pins σ H s) (h : H a = some (.dT [])) : Inv X pins σ (upd H a (.dK [])) s := by
  have new := empty_TK (H' := upd H a (.dK [])) (I.hok a _ h)
  obtain ⟨o, ho⟩ : ∃ o, s.heap.get? a = some o := by
    obtain ⟨_, _, _, _, o, _, _, e, _⟩ := I.hok a _ h
    exact ⟨o, e⟩
  exact Inv.un (t' := s.toks) I (Un.write (x := a) (e := a) (by rw [h]; trivial) (.inl rfl) (fun b u _ e => e) ⟨o, ho⟩)
    (HOk.write (e := a) I.hok (by rw [h]; trivial) (.inl rfl) (fun b u _ e => e) ⟨o, ho⟩ new)
theorem upd_back {a : Addr} {o u : HO} (h : H a = some u) : upd (upd H a o) a u = H := by
  funext b
  by_cases e : b = a
  · subst e; rw [upd_same, h]
  · rw [upd_ne e, upd_ne e]
end
end Snd

set_option Elab.async false
set_option linter.all false
set_option maxRecDepth 100000
set_option maxHeartbeats 2000000
namespace Snd
open PySem PySem.Spec L2
open PyProof.Rows hiding St
def OptRep (K : PySem.W.Frag) (H : Hp) (B : Bn) (c : Addr) : Option Tr → Option V → Prop
  | some t, some v => Rep K H B c t v
  | none, none => True
  | _, _ => False
theorem fits_inv {kvs : List (Tr × Tr)} {k : Tr} (h : Py.fits kvs k = true) : Py.keyOk k = true ∧ ∀ p ∈ kvs, Py.keyA p.1 = Py.keyA k := by
  unfold Py.fits at h
  simp only [Bool.and_eq_true, List.all_eq_true, beq_iff_eq] at h
  exact h
section
variable {X : L2.Cx} {pins : List (Addr × Obj)} {σ : L2.St} {H : Hp} {s : Shared} {B : Bn} {c : Addr}
theorem zip_nil_of {κ : Type} {ks : List κ} {vs : List V} (l : ks.length = vs.length) (e : vs = []) : ks = [] := by
  subst e
  exact List.length_eq_zero_iff.mp l
/-- a look into a dict -/
theorem dict_at {kvs : List (Tr × Tr)} {k : Tr} {x y : V} (I : Inv X pins σ H s) (r : RepW X.K H B c (.dct kvs) x) (hk : RepW X.K H B c k y) (fit : Py.fits kvs k = true) :
    ∃ a H', x = .ref a ∧ Inv X pins σ H' s ∧ (∃ o, DGet H' a y o ∧ OptRep X.K H B c (Py.dget kvs k) o) ∧ ∀ s', Inv X pins σ H' s' → Inv X pins σ H s' := by
  obtain ⟨a, vs, rfl, na, rv, hd⟩ := r
  obtain ⟨ok, same⟩ := fits_inv fit
  have lv := rv.length
  rcases key_cases ok with ⟨kk, rfl⟩ | ⟨kk, rfl⟩
  · have ey := weak_kT hk
    subst ey
    rcases hd with ⟨ks, l, e, rd⟩ | ⟨ks, l, e, rd⟩
    · refine ⟨a, H, rfl, I, ⟨valV (ks.zip vs) kk, .inl ⟨_, kk, rd.rd, rfl, rfl⟩, ?_⟩, fun _ i => i⟩
      rcases tab_get kT_eq kk e rv with ⟨t, v, g1, g2, g3⟩ | ⟨g1, g2⟩
      · rw [g1, g2]; exact g3
      · rw [g1, g2]; trivial
    · cases kvs with
      | cons p r =>
        have z := same p (List.mem_cons_self ..)
        cases ks with
        | nil => simp at e
        | cons j js =>
          simp only [List.map_cons, List.cons.injEq] at e
          rw [e.1, keyA_kTs, keyA_kT] at z
          cases z
      | nil =>
        have ev := rv.inv_nil
        subst ev
        have ek := zip_nil_of l rfl
        subst ek
        have hT : H a = some (.dT []) := by
          rcases rd with q | ⟨q, _⟩
          · exact q
          · exact absurd rfl q
        exact ⟨a, upd H a (.dK []), rfl, Inv.swapTK I hT, ⟨none, .inl ⟨[], kk, .inl upd_same, rfl, rfl⟩, trivial⟩, fun s' i => by
          have j := Inv.swapKT i (a := a) upd_same
          rw [upd_back hT] at j
          exact j⟩
  · obtain ⟨b, rfl, hb⟩ := weak_kTs hk
    rcases hd with ⟨ks, l, e, rd⟩ | ⟨ks, l, e, rd⟩
    · cases kvs with
      | cons p r =>
        have z := same p (List.mem_cons_self ..)
        cases ks with
        | nil => simp at e
        | cons j js =>
          simp only [List.map_cons, List.cons.injEq] at e
          rw [e.1, keyA_kTs, keyA_kT] at z
          cases z
      | nil =>
        have ev := rv.inv_nil
        subst ev
        have ek := zip_nil_of l rfl
        subst ek
        have hT : H a = some (.dK []) := by
          rcases rd with q | ⟨q, _⟩
          · exact q
          · exact absurd rfl q
        have nb : b ≠ a := fun z => by rw [z, hT] at hb; cases hb
        exact ⟨a, upd H a (.dT []), rfl, Inv.swapKT I hT, ⟨none, .inr ⟨[], kk, b, .inl upd_same, rfl, by rw [upd_ne nb]; exact hb, rfl⟩, trivial⟩, fun s' i => by
          have j := Inv.swapTK i (a := a) upd_same
          rw [upd_back hT] at j
          exact j⟩
    · refine ⟨a, H, rfl, I, ⟨valV (ks.zip vs) kk, .inr ⟨_, kk, b, rd.rd, rfl, hb, rfl⟩, ?_⟩, fun _ i => i⟩
      rcases tab_get kTt_eq kk e rv with ⟨t, v, g1, g2, g3⟩ | ⟨g1, g2⟩
      · rw [g1, g2]; exact g3
      · rw [g1, g2]; trivial
/-- a dict that may be written, at a -/
def OwnD (K : PySem.W.Frag) (H : Hp) (B : Bn) (c : Addr) (kvs : List (Tr × Tr)) (a : Addr) : Prop :=
  ∃ vs, RepV K H B c kvs vs ∧ ((∃ ks : List Key, ks.length = vs.length ∧ kvs.map (·.1) = ks.map kT ∧ H a = some (.dK (ks.zip vs))) ∨ ∃ ks : List (List Key), ks.length = vs.length ∧ kvs.map (·.1) = ks.map kTs ∧ H a = some (.dT (ks.zip vs)))
/-- what is known of a dict behind a store (the rest of the heap as in H) -/
def NewD (K : PySem.W.Frag) (H : Hp) (B : Bn) (c : Addr) (kvs : List (Tr × Tr)) (u : HO) : Prop :=
  ∃ vs, RepV K H B c kvs vs ∧ ((∃ ks : List Key, ks.length = vs.length ∧ kvs.map (·.1) = ks.map kT ∧ u = .dK (ks.zip vs)) ∨ ∃ ks : List (List Key), ks.length = vs.length ∧ kvs.map (·.1) = ks.map kTs ∧ u = .dT (ks.zip vs))
theorem zip_len {κ : Type} {ks : List κ} {vs : List V} (l : ks.length = vs.length) : (ks.zip vs).length = vs.length := by
  rw [List.length_zip, l, Nat.min_self]
theorem dict_put {kvs : List (Tr × Tr)} {k t : Tr} {y z : V} {a : Addr} (I : Inv X pins σ H s) (r : OwnD X.K H B c kvs a) (hk : RepW X.K H B c k y) (hz : Rep X.K H B c t z) (fit : Py.fits kvs k = true) (len : kvs.length < sizeLine) :
    ∃ H' u, Inv X pins σ H' s ∧ DPut H' a y z (upd H a u) ∧ NewD X.K H B c (Py.dput kvs k t) u := by
  obtain ⟨vs, rv, hd⟩ := r
  obtain ⟨ok, same⟩ := fits_inv fit
  have lv := rv.length
  rcases key_cases ok with ⟨kk, rfl⟩ | ⟨kk, rfl⟩
  · have ey := weak_kT hk
    subst ey
    rcases hd with ⟨ks, l, e, rd⟩ | ⟨ks, l, e, rd⟩
    · obtain ⟨ks', vs', a1, a2, a3, a4⟩ := tab_put kT_eq kk hz l e rv
      exact ⟨H, .dK (putK (ks.zip vs) kk z), I, .inl ⟨_, kk, rd, rfl, by rw [zip_len l, ← lv]; exact len, rfl⟩, vs', a4, .inl ⟨ks', a2, a3, by rw [a1]⟩⟩
    · cases kvs with
      | cons p r =>
        have z := same p (List.mem_cons_self ..)
        cases ks with
        | nil => simp at e
        | cons j js =>
          simp only [List.map_cons, List.cons.injEq] at e
          rw [e.1, keyA_kTs, keyA_kT] at z
          cases z
      | nil =>
        have ev := rv.inv_nil
        subst ev
        have ek := zip_nil_of l rfl
        subst ek
        obtain ⟨ks', vs', a1, a2, a3, a4⟩ := tab_put (K := X.K) (H := H) (B := B) (c := c) (kvs := []) (ks := []) (vs := []) kT_eq kk hz rfl rfl rv
        refine ⟨upd H a (.dK []), .dK (putK [] kk z), Inv.swapTK I rd, .inl ⟨[], kk, upd_same, rfl, by simpa using len, by rw [upd_upd]⟩, vs', a4, .inl ⟨ks', a2, a3, by rw [← a1]; rfl⟩⟩
  · obtain ⟨b, rfl, hb⟩ := weak_kTs hk
    rcases hd with ⟨ks, l, e, rd⟩ | ⟨ks, l, e, rd⟩
    · cases kvs with
      | cons p r =>
        have z := same p (List.mem_cons_self ..)
        cases ks with
        | nil => simp at e
        | cons j js =>
          simp only [List.map_cons, List.cons.injEq] at e
          rw [e.1, keyA_kTs, keyA_kT] at z
          cases z
      | nil =>
        have ev := rv.inv_nil
        subst ev
        have ek := zip_nil_of l rfl
        subst ek
        have nb : b ≠ a := fun z => by
          have rd' : H a = some (.dK []) := rd
          rw [z, rd'] at hb; cases hb
        obtain ⟨ks', vs', a1, a2, a3, a4⟩ := tab_put (K := X.K) (H := H) (B := B) (c := c) (kvs := []) (ks := []) (vs := []) kTt_eq kk hz rfl rfl rv
        refine ⟨upd H a (.dT []), .dT (putK [] kk z), Inv.swapKT I rd, .inr ⟨[], kk, b, upd_same, rfl, by rw [upd_ne nb]; exact hb, by simpa using len, by rw [upd_upd]⟩, vs', a4, .inr ⟨ks', a2, a3, by rw [← a1]; rfl⟩⟩
    · obtain ⟨ks', vs', a1, a2, a3, a4⟩ := tab_put kTt_eq kk hz l e rv
      exact ⟨H, .dT (putK (ks.zip vs) kk z), I, .inr ⟨_, kk, b, rd, rfl, hb, by rw [zip_len l, ← lv]; exact len, rfl⟩, vs', a4, .inr ⟨ks', a2, a3, by rw [a1]⟩⟩

theorem andB {a b : Bool} (h : (a && b) = true) : a = true ∧ b = true := Bool.and_eq_true_iff.mp h
theorem inM_wp {t u : Tr} {f : Bool → Tr} {Q : Tr → Prop} (h : WP ((Py.inM t u).bind fun r => .ret (f r)) Q) :
    (∃ xs, (u = .tup xs ∨ u = .lst xs) ∧ Py.plainL xs = true ∧ Py.plain t = true ∧ min (Py.depL xs) (Py.dep t) ≤ 60 ∧ Q (f (xs.any fun y => Py.eqT y t))) ∨ ∃ kvs, u = .dct kvs ∧ Py.fits kvs t = true ∧ Q (f (Py.dget kvs t).isSome) := by
  cases u with
  | tup xs =>
    left
    simp only [Py.inM] at h
    cases e : (Py.plainL xs && Py.plain t && decide (min (Py.depL xs) (Py.dep t) ≤ 60)) with
    | true =>
      rw [e] at h
      obtain ⟨e1, e2⟩ := andB e
      obtain ⟨e3, e4⟩ := andB e1
      exact ⟨xs, .inl rfl, e3, e4, of_decide_eq_true e2, h⟩
    | false => rw [e] at h; exact h.elim
  | lst xs =>
    left
    simp only [Py.inM] at h
    cases e : (Py.plainL xs && Py.plain t && decide (min (Py.depL xs) (Py.dep t) ≤ 60)) with
    | true =>
      rw [e] at h
      obtain ⟨e1, e2⟩ := andB e
      obtain ⟨e3, e4⟩ := andB e1
      exact ⟨xs, .inr rfl, e3, e4, of_decide_eq_true e2, h⟩
    | false => rw [e] at h; exact h.elim
  | dct kvs =>
    right
    simp only [Py.inM] at h
    cases e : Py.fits kvs t with
    | true => rw [e] at h; exact ⟨kvs, rfl, e, h⟩
    | false => rw [e] at h; exact h.elim
  | _ => exact False.elim h
theorem optRep_some {K : PySem.W.Frag} {o : Option Tr} {v : Option V} (h : OptRep K H B c o v) : v.isSome = o.isSome := by
  cases o <;> cases v <;> simp [OptRep] at h ⊢
theorem op_inT (hu : Roomy X) : OpR X (compareOp .In) (r2 X.K c (Py.cmpM .isin)) := by
  intro pins s σ H x y v u Q I rx ry ⟨B, t, t', hH, h1, h2, hw⟩
  rcases inM_wp (f := fun r => .bl r) (show WP ((Py.inM t t').bind fun r => .ret (.bl r)) (Aft X.K B c H Q) from hw) with ⟨xs, hx, p1, p2, d, hq⟩ | ⟨kvs, rfl, fit, hq⟩
  · have d1 := dep_toDs xs
    have d2 := dep_toD t
    obtain ⟨as, r1⟩ := reads_of I h1 p2 rx
    have e := any_toD xs t p1 p2
    have fin : EP X pins σ Q (.bool ((toDs xs).any fun z => PyData.eqv z (toD t))) s := ⟨.bl _, H, I, rfl, by rw [e]; exact Aft.same hq hH repB⟩
    rcases hx with rfl | rfl
    · obtain ⟨bs, r2⟩ := reads_of I h2 (show Py.plain (.tup xs) = true by simpa only [Py.plain] using p1) ry
      exact SeqAt.in_tuple_reads r2 r1 (lay_toDs p1) (lay_toD p2) (by omega) fin
    · obtain ⟨bs, r2⟩ := reads_of I h2 (show Py.plain (.lst xs) = true by simpa only [Py.plain] using p1) ry
      exact SeqAt.in_list_reads r2 r1 (lay_toDs p1) (lay_toD p2) (by omega) fin
  · obtain ⟨a, H', rfl, I', ⟨o, g, ro⟩, back⟩ := dict_at I h2 h1 fit
    obtain rfl : u = Value.ref a := ry
    exact d_in (by omega) I' g rx fun s' J => ⟨.bl _, H, back s' J, rfl, by rw [optRep_some ro]; exact Aft.same hq hH repB⟩
theorem op_ninT (hu : Roomy X) : OpR X (compareOp .NotIn) (r2 X.K c (Py.cmpM .nin)) := by
  intro pins s σ H x y v u Q I rx ry ⟨B, t, t', hH, h1, h2, hw⟩
  rcases inM_wp (f := fun r => .bl (!r)) (show WP ((Py.inM t t').bind fun r => .ret (.bl (!r))) (Aft X.K B c H Q) from hw) with ⟨xs, hx, p1, p2, d, hq⟩ | ⟨kvs, rfl, fit, hq⟩
  · have d1 := dep_toDs xs
    have d2 := dep_toD t
    obtain ⟨as, r1⟩ := reads_of I h1 p2 rx
    have e := any_toD xs t p1 p2
    have fin : EP X pins σ Q (.bool (!(toDs xs).any fun z => PyData.eqv z (toD t))) s := ⟨.bl _, H, I, rfl, by rw [e]; exact Aft.same hq hH repB⟩
    rcases hx with rfl | rfl
    · obtain ⟨bs, r2⟩ := reads_of I h2 (show Py.plain (.tup xs) = true by simpa only [Py.plain] using p1) ry
      exact SeqAt.notIn_tuple_reads r2 r1 (lay_toDs p1) (lay_toD p2) (by omega) fin
    · obtain ⟨bs, r2⟩ := reads_of I h2 (show Py.plain (.lst xs) = true by simpa only [Py.plain] using p1) ry
      exact SeqAt.notIn_list_reads r2 r1 (lay_toDs p1) (lay_toD p2) (by omega) fin
  · obtain ⟨a, H', rfl, I', ⟨o, g, ro⟩, back⟩ := dict_at I h2 h1 fit
    obtain rfl : u = Value.ref a := ry
    exact d_notIn (by omega) I' g rx fun s' J => ⟨.bl _, H, back s' J, rfl, by rw [optRep_some ro]; exact Aft.same hq hH repB⟩
theorem op_cmp (hu : Roomy X) (o : Py.Cop) : OpR X (compareOp (copOf o)) (r2 X.K c (Py.cmpM o)) := by
  cases o
  · exact op_eqT hu
  · exact op_neT hu
  · exact op_ordT (op := .Lt) rfl hu _ fun _ _ => rfl
  · exact op_ordT (op := .LtE) rfl hu _ fun _ _ => rfl
  · exact op_ordT (op := .Gt) rfl hu _ fun _ _ => rfl
  · exact op_ordT (op := .GtE) rfl hu _ fun _ _ => rfl
  · exact op_inT hu
  · exact op_ninT hu
  · exact op_isT
  · exact op_isntT

theorem ixI_eq (n : Nat) (i : Int) : Py.ixI n i = ixN n i := rfl
theorem atT_wp {xs : List Tr} {i : Int} {Q : Tr → Prop} (h : WP (Py.atT xs i) Q) : ∃ j x, ixN xs.length i = some j ∧ xs[j]? = some x ∧ Q x := by
  unfold Py.atT at h
  rw [ixI_eq] at h
  cases e : ixN xs.length i with
  | none => rw [e] at h; exact h.elim
  | some j =>
    rw [e] at h
    simp only at h
    cases q : xs[j]? with
    | none => rw [q] at h; exact h.elim
    | some x => rw [q] at h; exact ⟨j, x, rfl, q, h⟩
theorem atI_rep {K : PySem.W.Frag} {xs : List Tr} {vs : List V} {i : Int} {j : Nat} {x : Tr} (l : RepL K H B c xs vs) (e : ixN xs.length i = some j) (g : xs[j]? = some x) : ∃ v, atI vs i = some v ∧ Rep K H B c x v := by
  obtain ⟨v, h1, h2⟩ := l.get g
  refine ⟨v, ?_, h2⟩
  unfold atI
  rw [← l.length, e]
  exact h1
theorem ix_T (hu : Roomy X) : IxR X (r2 X.K c Py.idxM) := by
  intro value slice pins s σ H x y v u Q I rx ry ⟨B, t, t', hH, h1, h2, hw⟩ hs
  cases t with
  | tup xs => cases t' with
    | int k =>
      obtain ⟨a, vs, rfl, na, sa, la⟩ := wTup h1
      have e2 := wInt h2; subst e2
      obtain ⟨j, z, e, g, hq⟩ := atT_wp (show WP (Py.atT xs k) (Aft X.K B c H Q) from hw)
      obtain ⟨zv, h3, h4⟩ := atI_rep la e g
      exact ix_tup value slice pins s σ H _ _ v u Q I rx ry ⟨a, vs, k, zv, rfl, rfl, .inl (.inl sa), h3, Aft.same hq hH h4⟩ hs
    | _ => exact False.elim hw
  | lst xs => cases t' with
    | int k =>
      obtain ⟨a, vs, rfl, na, sa, la⟩ := wLst h1
      have e2 := wInt h2; subst e2
      obtain ⟨j, z, e, g, hq⟩ := atT_wp (show WP (Py.atT xs k) (Aft X.K B c H Q) from hw)
      obtain ⟨zv, h3, h4⟩ := atI_rep la e g
      exact ix_list value slice pins s σ H _ _ v u Q I rx ry ⟨a, vs, k, zv, rfl, rfl, .inl (.inl sa), h3, Aft.same hq hH h4⟩ hs
    | _ => exact False.elim hw
  | dct kvs =>
    simp only [Py.idxM] at hw
    cases fit : Py.fits kvs t' with
    | false => rw [fit] at hw; exact hw.elim
    | true =>
      rw [fit] at hw
      cases g : Py.dget kvs t' with
      | none => rw [g] at hw; exact hw.elim
      | some z =>
        rw [g] at hw
        have hq : Aft X.K B c H Q z := hw
        obtain ⟨a, H', rfl, I', ⟨o, dg, ro⟩, back⟩ := dict_at I h1 h2 fit
        rw [g] at ro
        cases o with
        | none => exact ro.elim
        | some zv =>
          obtain rfl : v = Value.ref a := rx
          have hT := dict_typeIs I' dg
          unfold subscriptTail
          refine wpAny_bind ?_
          rw [getitemInPython_of_ne hT.not_modules]
          refine wpAny_bind (wpAny_specialOf hT PySem.F.slot_dict_getitem.lookup ?_)
          have fin : wpAny (model X.prog X.w) X.A (subscripted slice false (.ref a) u) (fun r s₃ => wpAny (model X.prog X.w) X.A (letTemporaryGo value (.ref a) r >>= fun _ => pure r) (EP X pins σ Q) X.xe s₃) X.xe s := by
            rw [hs]
            exact wpAny_operating (d_getItem (by omega) I' dg ry fun w' s3 I3 rw' => wpAny_bind (wpAny_letTemporaryGo (wpAny_pure ⟨zv, H, back s3 I3, rw', Aft.same hq hH ro⟩)))
          first
            | exact wpAny_pure (wpAny_bind fin)
            | exact wpAny_bind (wpAny_pure (wpAny_bind fin))
            | exact wpAny_bind fin
  | _ => exact False.elim hw
end
end Snd

set_option Elab.async false
set_option linter.all false
set_option maxRecDepth 100000
set_option maxHeartbeats 2000000
namespace PySem.W
open PySem PySem.SeqAt PyProof.Rows
section
variable {prog : Program} {w : World} {A : Around} {E : Value → Shared → Prop} {s : Shared}
/-- min(a, b) over anything alike -/
theorem call_min_twoH {x y : Value} {Q : Value → Shared → Prop}
    (h : wpAny (model prog w) A.in1 (pyIter (.ref s.heap.objs.size)) (fun it s₂ => ∃ I fp wr G n P St H bt, it = .ref I ∧ WalksS prog w A.in1 I fp wr G n P St ∧ St 0 s₂ ∧ (∀ b ∈ fp, b < s₂.heap.objs.size) ∧ 0 < n ∧
      (∀ b o, H.get? b = some o → b ∉ wr) ∧ (∀ b o, H.get? b = some o → s₂.heap.get? b = some o) ∧ CmpIn prog w A.in1 .Lt H P bt ∧ ∀ v s', P (argBest bt (n - 1)) v → Moved wr G s₂ s' → Q v s') E { s with heap := s.heap.push { cls := .type "tuple", data := .seq #[x, y] } }) :
    wpAny (model prog w) A (call (.builtin "min") [x, y]) Q E s := by
  have hname : (toString "min" ++ toString ".loop" : String) = "min.loop" := by decide
  refine call_function_tree F.kind_min F.plain_min F.entry_min (F.args_min2 _ _) ?_
  show wpAny _ A.in1 (Builtin.Builtins.bindParams "min" ["key", "default"] 0 ⟨[], []⟩ >>= _) _ _ s
  refine wpAny_bind (wpAny_of_eq (show Builtin.Builtins.bindParams "min" ["key", "default"] 0 ⟨[], []⟩ = pure [none, none] from rfl) ?_)
  show wpAny _ A.in1 (newTuple [x, y] >>= _) _ _ s
  refine wpAny_bind (wpAny_newObj_type ?_)
  refine wpAny_bind (wpAny_mono h (fun it s₂ h₂ => ?_) fun _ _ e => e)
  obtain ⟨I, fp, wr, G, n, P, St, H, bt, rfl, W, hst, hfp, hn, hw, hkeep, hcmp, hQ⟩ := h₂
  refine wpAny_bind (wpAny_newObj_type ?_)
  have hSf : s₂.heap.objs.size ∉ fp := fun hm => Nat.lt_irrefl _ (hfp _ hm)
  rw [hname]
  refine wpAny_pure ⟨plainId_quiet F.plain_min_loop _, codeAny_min_loop_firstH W H hw bt hcmp s₂.heap.objs.size hSf (fresh_in hkeep) _ hn (fun b o e => Heap.get?_push_of_some _ (hkeep b o e)) (W.frame 0 s₂ _ s₂.toks hst (Nat.le_refl _) fun b _ o e => Heap.get?_push_of_some _ e) (Heap.get?_push_size _ rfl) fun v s' hP hm => ?_⟩
  exact hQ v s' hP (Moved.drop_new (tk := s₂.toks) hm (Nat.le_refl _))
theorem call_max_twoH {x y : Value} {Q : Value → Shared → Prop}
    (h : wpAny (model prog w) A.in1 (pyIter (.ref s.heap.objs.size)) (fun it s₂ => ∃ I fp wr G n P St H bt, it = .ref I ∧ WalksS prog w A.in1 I fp wr G n P St ∧ St 0 s₂ ∧ (∀ b ∈ fp, b < s₂.heap.objs.size) ∧ 0 < n ∧
      (∀ b o, H.get? b = some o → b ∉ wr) ∧ (∀ b o, H.get? b = some o → s₂.heap.get? b = some o) ∧ CmpIn prog w A.in1 .Gt H P bt ∧ ∀ v s', P (argBest bt (n - 1)) v → Moved wr G s₂ s' → Q v s') E { s with heap := s.heap.push { cls := .type "tuple", data := .seq #[x, y] } }) :
    wpAny (model prog w) A (call (.builtin "max") [x, y]) Q E s := by
  have hname : (toString "max" ++ toString ".loop" : String) = "max.loop" := by decide
  refine call_function_tree F.kind_max F.plain_max F.entry_max (F.args_max2 _ _) ?_
  show wpAny _ A.in1 (Builtin.Builtins.bindParams "max" ["key", "default"] 0 ⟨[], []⟩ >>= _) _ _ s
  refine wpAny_bind (wpAny_of_eq (show Builtin.Builtins.bindParams "max" ["key", "default"] 0 ⟨[], []⟩ = pure [none, none] from rfl) ?_)
  show wpAny _ A.in1 (newTuple [x, y] >>= _) _ _ s
  refine wpAny_bind (wpAny_newObj_type ?_)
  refine wpAny_bind (wpAny_mono h (fun it s₂ h₂ => ?_) fun _ _ e => e)
  obtain ⟨I, fp, wr, G, n, P, St, H, bt, rfl, W, hst, hfp, hn, hw, hkeep, hcmp, hQ⟩ := h₂
  refine wpAny_bind (wpAny_newObj_type ?_)
  have hSf : s₂.heap.objs.size ∉ fp := fun hm => Nat.lt_irrefl _ (hfp _ hm)
  rw [hname]
  refine wpAny_pure ⟨plainId_quiet F.plain_max_loop _, codeAny_max_loop_firstH W H hw bt hcmp s₂.heap.objs.size hSf (fresh_in hkeep) _ hn (fun b o e => Heap.get?_push_of_some _ (hkeep b o e)) (W.frame 0 s₂ _ s₂.toks hst (Nat.le_refl _) fun b _ o e => Heap.get?_push_of_some _ e) (Heap.get?_push_size _ rfl) fun v s' hP hm => ?_⟩
  exact hQ v s' hP (Moved.drop_new (tk := s₂.toks) hm (Nat.le_refl _))
theorem min_two_data {v0 v1 : Value} {x y : PyData} {as : List Addr} {Q : Value → Shared → Prop} (hh : A.handled = none) (hr : ReadsAll s.heap [v0, v1] [x, y] as) (ha : AlikeAll [x, y]) (hu : A.units + 1 + PyData.depthAll [x, y] < cLine)
    (h : ∀ (i : Nat) v h' tk bs, [v0, v1][i]? = some v → Reads h' v (minD x [y]) bs → (∀ b o, s.heap.get? b = some o → h'.get? b = some o) → Q v { s with heap := h', toks := tk }) :
    wpAny (model prog w) A (call (.builtin "min") [v0, v1]) Q E s := by
  have hk0 : ∀ b o, s.heap.get? b = some o → (s.heap.push { cls := .type "tuple", data := .seq #[v0, v1] }).get? b = some o := fun b o e => Heap.get?_push_of_some _ e
  have hl : (s.heap.push { cls := .type "tuple", data := .seq #[v0, v1] }).IsTuple s.heap.objs.size #[v0, v1] := ⟨_, Heap.get?_push_size _ rfl, rfl, 0, rfl⟩
  have hr' := ReadsAll.keeps hk0 hr
  refine call_min_twoH (iter_tupleW (A := A.in1) hh hl fun s₂ e W st hfp hw hk => ?_)
  refine ⟨_, _, _, _, _, _, _, (s.heap.push { cls := .type "tuple", data := .seq #[v0, v1] }), _, rfl, W, st, hfp, by show 0 < 2; omega, hw, hk, cmpIn_lt (A := A.in1) (s := { s with heap := s.heap.push { cls := .type "tuple", data := .seq #[v0, v1] } }) (vs := #[v0, v1]) hr' ha (by show A.units + 1 + _ < _; exact hu), fun v s' hP m => ?_⟩
  obtain ⟨h', tk, rfl, hk'⟩ := moved_old e rfl m
  obtain ⟨bs, r, _, _, _⟩ := readsAll_atA hr' _ v hP
  have e2 := (argBest_fold dataLt PyData.none x [y] 1 (Nat.le_refl _)).2
  exact h _ v h' tk bs (by have hP' := hP; rw [← Array.getElem?_toList] at hP'; exact hP') (reads_keeps hk' (by unfold minD; rw [show [y].foldl _ x = ([y].take 1).foldl _ x from rfl, ← e2]; exact r)) fun b o e => hk' b o (hk0 b o e)
theorem max_two_data {v0 v1 : Value} {x y : PyData} {as : List Addr} {Q : Value → Shared → Prop} (hh : A.handled = none) (hr : ReadsAll s.heap [v0, v1] [x, y] as) (ha : AlikeAll [x, y]) (hu : A.units + 1 + PyData.depthAll [x, y] < cLine)
    (h : ∀ (i : Nat) v h' tk bs, [v0, v1][i]? = some v → Reads h' v (maxD x [y]) bs → (∀ b o, s.heap.get? b = some o → h'.get? b = some o) → Q v { s with heap := h', toks := tk }) :
    wpAny (model prog w) A (call (.builtin "max") [v0, v1]) Q E s := by
  have hk0 : ∀ b o, s.heap.get? b = some o → (s.heap.push { cls := .type "tuple", data := .seq #[v0, v1] }).get? b = some o := fun b o e => Heap.get?_push_of_some _ e
  have hl : (s.heap.push { cls := .type "tuple", data := .seq #[v0, v1] }).IsTuple s.heap.objs.size #[v0, v1] := ⟨_, Heap.get?_push_size _ rfl, rfl, 0, rfl⟩
  have hr' := ReadsAll.keeps hk0 hr
  refine call_max_twoH (iter_tupleW (A := A.in1) hh hl fun s₂ e W st hfp hw hk => ?_)
  refine ⟨_, _, _, _, _, _, _, (s.heap.push { cls := .type "tuple", data := .seq #[v0, v1] }), _, rfl, W, st, hfp, by show 0 < 2; omega, hw, hk, cmpIn_gt (A := A.in1) (s := { s with heap := s.heap.push { cls := .type "tuple", data := .seq #[v0, v1] } }) (vs := #[v0, v1]) hr' ha (by show A.units + 1 + _ < _; exact hu), fun v s' hP m => ?_⟩
  obtain ⟨h', tk, rfl, hk'⟩ := moved_old e rfl m
  obtain ⟨bs, r, _, _, _⟩ := readsAll_atA hr' _ v hP
  have e2 := (argBest_fold (fun y a => dataLt a y) PyData.none x [y] 1 (Nat.le_refl _)).2
  exact h _ v h' tk bs (by have hP' := hP; rw [← Array.getElem?_toList] at hP'; exact hP') (reads_keeps hk' (by unfold maxD; rw [show [y].foldl _ x = ([y].take 1).foldl _ x from rfl, ← e2]; exact r)) fun b o e => hk' b o (hk0 b o e)
end
end PySem.W
namespace Snd
open PySem PySem.Spec L2
open PyProof.Rows hiding St

mutual
theorem alike_toD : ∀ (t u : Tr), PySem.W.alike (toD t) (toD u) = true ∨ Py.alikeT t u = false
  | .non, u => by cases u <;> simp [toD, PySem.W.alike, Py.alikeT]
  | .bl _, u => by cases u <;> simp [toD, PySem.W.alike, Py.alikeT]
  | .int _, u => by cases u <;> simp [toD, PySem.W.alike, Py.alikeT]
  | .str _, u => by cases u <;> simp [toD, PySem.W.alike, Py.alikeT]
  | .tup xs, u => by
    cases u with
    | tup ys =>
      simp only [toD, PySem.W.alike, Py.alikeT]
      exact alike_toDs xs ys
    | _ => simp [Py.alikeT]
  | .lst xs, u => by
    cases u with
    | lst ys =>
      simp only [toD, PySem.W.alike, Py.alikeT]
      exact alike_toDs xs ys
    | _ => simp [Py.alikeT]
  | .dct _, u => by simp [Py.alikeT]
  | .set _, u => by simp [Py.alikeT]
  | .cup, u => by simp [Py.alikeT]
theorem alike_toDs : ∀ (ts us : List Tr), PySem.W.alikeAll (toDs ts) (toDs us) = true ∨ Py.alikeL ts us = false
  | [], [] => .inl (by simp [toDs, PySem.W.alikeAll])
  | [], _ :: _ => .inl (by simp [toDs, PySem.W.alikeAll])
  | _ :: _, [] => .inl (by simp [toDs, PySem.W.alikeAll])
  | t :: ts, u :: us => by
    simp only [toDs, PySem.W.alikeAll, Py.alikeL]
    rcases alike_toD t u with h | h
    · rcases alike_toDs ts us with g | g
      · left; rw [h, g]; rfl
      · right; rw [g]; simp
    · right; rw [h]; rfl
end
theorem alike_of {t u : Tr} (h : Py.alikeT t u = true) : PySem.W.alike (toD t) (toD u) = true := by
  rcases alike_toD t u with g | g
  · exact g
  · rw [h] at g; cases g
mutual
theorem dataLt_toD : ∀ (t u : Tr), Py.plain t = true → Py.plain u = true → Py.alikeT t u = true → PySem.W.dataLt (toD t) (toD u) = Py.ltT t u
  | .non, u, _, _, h => by cases u <;> simp [Py.alikeT] at h; simp only [toD, Py.ltT]; rfl
  | .bl a, u, _, _, h => by
    cases u with
    | bl b =>
      simp only [toD, Py.ltT, PySem.W.dataLt_bool]
      cases a <;> cases b <;> decide
    | _ => simp [Py.alikeT] at h
  | .int a, u, _, _, h => by
    cases u <;> simp [Py.alikeT] at h
    simp only [toD, Py.ltT, PySem.W.dataLt_int]
  | .str a, u, _, _, h => by
    cases u <;> simp [Py.alikeT] at h
    simp only [toD, Py.ltT, PySem.W.dataLt_str, ordN_lt]
  | .tup xs, u, p, q, h => by
    cases u with
    | tup ys =>
      simp only [toD, Py.ltT, PySem.W.dataLt_tuple]
      exact dataLt_toDs xs ys (by simpa only [Py.plain] using p) (by simpa only [Py.plain] using q) (by simpa only [Py.alikeT] using h)
    | _ => simp [Py.alikeT] at h
  | .lst xs, u, p, q, h => by
    cases u with
    | lst ys =>
      simp only [toD, Py.ltT, PySem.W.dataLt_list]
      exact dataLt_toDs xs ys (by simpa only [Py.plain] using p) (by simpa only [Py.plain] using q) (by simpa only [Py.alikeT] using h)
    | _ => simp [Py.alikeT] at h
  | .dct _, u, _, _, h => by simp [Py.alikeT] at h
  | .set _, u, _, _, h => by simp [Py.alikeT] at h
  | .cup, u, _, _, h => by simp [Py.alikeT] at h
theorem dataLt_toDs : ∀ (ts us : List Tr), Py.plainL ts = true → Py.plainL us = true → Py.alikeL ts us = true → PyProof.Rows.lexLt itemOrd (PySem.W.keyToksAll (toDs ts)) (PySem.W.keyToksAll (toDs us)) = Py.ltL ts us
  | [], [], _, _, _ => by simp only [toDs, Py.ltL]; rfl
  | [], u :: us, _, _, _ => by
    simp only [toDs, Py.ltL, PySem.W.keyToksAll]
    rfl
  | t :: ts, [], _, _, _ => by
    simp only [toDs, Py.ltL, PySem.W.keyToksAll]
    rfl
  | t :: ts, u :: us, p, q, h => by
    have p' : Py.plain t = true ∧ Py.plainL ts = true := by simpa [Py.plainL] using p
    have q' : Py.plain u = true ∧ Py.plainL us = true := by simpa [Py.plainL] using q
    have h' : Py.alikeT t u = true ∧ Py.alikeL ts us = true := by simpa [Py.alikeL] using h
    simp only [toDs, Py.ltL]
    rw [PySem.W.dataLt_cons (alike_of h'.1), eqv_toD t u p'.1 q'.1, dataLt_toDs ts us p'.2 q'.2 h'.2, dataLt_toD t u p'.1 q'.1 h'.1]
end
mutual
theorem toD_inj : ∀ {t u : Tr}, Py.plain t = true → Py.plain u = true → toD t = toD u → t = u
  | .non, u, _, q, h => by cases u <;> simp [Py.plain] at q <;> simp [toD] at h; rfl
  | .bl _, u, _, q, h => by cases u <;> simp [Py.plain] at q <;> simp [toD] at h; rw [h]
  | .int _, u, _, q, h => by cases u <;> simp [Py.plain] at q <;> simp [toD] at h; rw [h]
  | .str _, u, _, q, h => by cases u <;> simp [Py.plain] at q <;> simp [toD] at h; rw [h]
  | .tup xs, u, p, q, h => by
    cases u with
    | tup ys =>
      simp only [toD, PyData.tuple.injEq] at h
      rw [toDs_inj (by simpa only [Py.plain] using p) (by simpa only [Py.plain] using q) h]
    | _ => simp [Py.plain] at q <;> simp [toD] at h
  | .lst xs, u, p, q, h => by
    cases u with
    | lst ys =>
      simp only [toD, PyData.list.injEq] at h
      rw [toDs_inj (by simpa only [Py.plain] using p) (by simpa only [Py.plain] using q) h]
    | _ => simp [Py.plain] at q <;> simp [toD] at h
  | .dct _, _, p, _, _ => by simp [Py.plain] at p
  | .set _, _, p, _, _ => by simp [Py.plain] at p
  | .cup, _, p, _, _ => by simp [Py.plain] at p
theorem toDs_inj : ∀ {ts us : List Tr}, Py.plainL ts = true → Py.plainL us = true → toDs ts = toDs us → ts = us
  | [], [], _, _, _ => rfl
  | [], _ :: _, _, _, h => by simp [toDs] at h
  | _ :: _, [], _, _, h => by simp [toDs] at h
  | t :: ts, u :: us, p, q, h => by
    have p' : Py.plain t = true ∧ Py.plainL ts = true := by simpa [Py.plainL] using p
    have q' : Py.plain u = true ∧ Py.plainL us = true := by simpa [Py.plainL] using q
    simp only [toDs, List.cons.injEq] at h
    rw [toD_inj p'.1 q'.1 h.1, toDs_inj p'.2 q'.2 h.2]
end
theorem toDs_map : ∀ ts : List Tr, toDs ts = ts.map toD
  | [] => rfl
  | t :: ts => by simp [toDs, toDs_map ts]
theorem plainL_mem : ∀ {ts : List Tr}, Py.plainL ts = true → ∀ t ∈ ts, Py.plain t = true
  | [], _, _, h => by simp at h
  | a :: ts, p, t, h => by
    have p' : Py.plain a = true ∧ Py.plainL ts = true := by simpa [Py.plainL] using p
    rcases List.mem_cons.mp h with rfl | h
    · exact p'.1
    · exact plainL_mem p'.2 t h
theorem depL_mem : ∀ {ts : List Tr}, ∀ t ∈ ts, Py.dep t ≤ Py.depL ts
  | [], _, h => by simp at h
  | a :: ts, t, h => by
    simp only [Py.depL]
    rcases List.mem_cons.mp h with rfl | h
    · omega
    · have := depL_mem t h; omega
/-- what cmpAll says -/
structure CmpAll (xs : List Tr) : Prop where
  pl : Py.plainL xs = true
  dp : Py.depL xs ≤ 60
  al : ∀ x ∈ xs, ∀ y ∈ xs, Py.alikeT x y = true
  nn : ∀ x ∈ xs, Py.isNone x = false
theorem cmpAll_of {xs : List Tr} (h : Py.cmpAll xs = true) : CmpAll xs := by
  unfold Py.cmpAll at h
  simp only [Bool.and_eq_true, decide_eq_true_eq, List.all_eq_true, Bool.not_eq_true'] at h
  exact ⟨h.1.1.1, h.1.1.2, h.1.2, h.2⟩
theorem alikeAll_of {xs : List Tr} (h : CmpAll xs) : PySem.W.AlikeAll (toDs xs) := by
  rw [toDs_map]
  refine ⟨fun x hx y hy => ?_, fun x hx => ?_⟩
  · obtain ⟨t, ht, rfl⟩ := List.mem_map.mp hx
    obtain ⟨u, hu, rfl⟩ := List.mem_map.mp hy
    exact alike_of (h.al t ht u hu)
  · obtain ⟨t, ht, rfl⟩ := List.mem_map.mp hx
    have n := h.nn t ht
    have p := plainL_mem h.pl t ht
    cases t <;> simp [Py.isNone] at n <;> simp [Py.plain] at p <;> simp [toD]
theorem fold_mem {α : Type} (f : α → α → Bool) : ∀ (xs : List α) (m : α), xs.foldl (fun a y => if f y a then y else a) m ∈ m :: xs
  | [], m => by simp
  | x :: xs, m => by
    rw [List.foldl_cons]
    have h := fold_mem f xs (if f x m then x else m)
    by_cases e : f x m = true
    · rw [if_pos e] at h ⊢
      rcases List.mem_cons.mp h with h | h
      · rw [h]; simp
      · simp [h]
    · rw [if_neg e] at h ⊢
      rcases List.mem_cons.mp h with h | h
      · rw [h]; simp
      · simp [h]
theorem fold_toD {lt : Tr → Tr → Bool} {ld : PyData → PyData → Bool} : ∀ (xs : List Tr) (m : Tr), (∀ x ∈ m :: xs, ∀ y ∈ m :: xs, ld (toD x) (toD y) = lt x y) →
    (xs.map toD).foldl (fun a y => if ld y a then y else a) (toD m) = toD (xs.foldl (fun a y => if lt y a then y else a) m)
  | [], _, _ => rfl
  | x :: xs, m, h => by
    rw [List.map_cons, List.foldl_cons, List.foldl_cons]
    have e := h x (by simp) m (by simp)
    rw [e]
    by_cases q : lt x m = true
    · rw [if_pos q, if_pos q]
      exact fold_toD xs x fun a ha b hb => h a (by rcases List.mem_cons.mp ha with r | r <;> simp [r]) b (by rcases List.mem_cons.mp hb with r | r <;> simp [r])
    · rw [if_neg q, if_neg q]
      exact fold_toD xs m fun a ha b hb => h a (by rcases List.mem_cons.mp ha with r | r <;> simp [r]) b (by rcases List.mem_cons.mp hb with r | r <;> simp [r])
theorem ld_eq {xs : List Tr} (h : CmpAll xs) : ∀ x ∈ xs, ∀ y ∈ xs, PySem.W.dataLt (toD x) (toD y) = Py.ltT x y := fun x hx y hy =>
  dataLt_toD x y (plainL_mem h.pl x hx) (plainL_mem h.pl y hy) (h.al x hx y hy)
theorem minD_toD {x : Tr} {xs : List Tr} (h : CmpAll (x :: xs)) : PySem.W.minD (toD x) (toDs xs) = toD (Py.minL x xs) := by
  rw [toDs_map]
  exact fold_toD xs x (ld_eq h)
theorem maxD_toD {x : Tr} {xs : List Tr} (h : CmpAll (x :: xs)) : PySem.W.maxD (toD x) (toDs xs) = toD (Py.maxL x xs) := by
  rw [toDs_map]
  exact fold_toD (lt := fun y a => Py.ltT a y) (ld := fun y a => PySem.W.dataLt a y) xs x fun a ha b hb => ld_eq h b hb a ha

def insBy {α : Type} (lt : α → α → Bool) (x : α) : List α → List α
  | [] => [x]
  | y :: r => if lt y x then y :: insBy lt x r else x :: y :: r
def sortBy {α : Type} (lt : α → α → Bool) : List α → List α
  | [] => []
  | x :: xs => insBy lt x (sortBy lt xs)
theorem ins_eq (x : Tr) : ∀ xs, Py.insT x xs = insBy Py.ltT x xs
  | [] => rfl
  | y :: r => by simp only [Py.insT, insBy, ins_eq x r]
theorem sort_eq : ∀ xs, Py.sortT xs = sortBy Py.ltT xs
  | [] => rfl
  | x :: xs => by simp only [Py.sortT, sortBy, sort_eq xs, ins_eq]
theorem ins_perm {α : Type} (lt : α → α → Bool) (x : α) : ∀ xs, (insBy lt x xs).Perm (x :: xs)
  | [] => List.Perm.refl _
  | y :: r => by
    unfold insBy
    by_cases h : lt y x = true
    · rw [if_pos h]; exact ((ins_perm lt x r).cons y).trans (List.Perm.swap x y r)
    · rw [if_neg h]
theorem sort_perm {α : Type} (lt : α → α → Bool) : ∀ xs, (sortBy lt xs).Perm xs
  | [] => List.Perm.refl _
  | x :: xs => (ins_perm lt x _).trans ((sort_perm lt xs).cons x)
theorem ins_congr {α : Type} {lt lt' : α → α → Bool} (x : α) : ∀ xs, (∀ y ∈ xs, lt y x = lt' y x) → insBy lt x xs = insBy lt' x xs
  | [], _ => rfl
  | y :: r, h => by
    unfold insBy
    rw [h y (by simp), ins_congr x r fun z hz => h z (by simp [hz])]
theorem sort_congr' {α : Type} {lt lt' : α → α → Bool} : ∀ xs, (∀ x ∈ xs, ∀ y ∈ xs, lt x y = lt' x y) → sortBy lt xs = sortBy lt' xs
  | [], _ => rfl
  | x :: xs, h => by
    unfold sortBy
    rw [sort_congr' xs fun a ha b hb => h a (by simp [ha]) b (by simp [hb])]
    exact ins_congr x _ fun y hy => h y (by simp [(sort_perm lt' xs).mem_iff.mp hy]) x (by simp)
theorem ins_map {α β : Type} {lt : α → α → Bool} {lt' : β → β → Bool} (f : α → β) (x : α) : ∀ xs, (∀ y ∈ xs, lt y x = lt' (f y) (f x)) → (insBy lt x xs).map f = insBy lt' (f x) (xs.map f)
  | [], _ => rfl
  | y :: r, h => by
    rw [List.map_cons]
    unfold insBy
    rw [h y (by simp)]
    by_cases e : lt' (f y) (f x) = true
    · rw [if_pos e, if_pos e, List.map_cons, ins_map f x r fun z hz => h z (by simp [hz])]
    · rw [if_neg e, if_neg e, List.map_cons, List.map_cons]
theorem sort_map {α β : Type} {lt : α → α → Bool} {lt' : β → β → Bool} (f : α → β) : ∀ xs, (∀ x ∈ xs, ∀ y ∈ xs, lt x y = lt' (f x) (f y)) → (sortBy lt xs).map f = sortBy lt' (xs.map f)
  | [], _ => rfl
  | x :: xs, h => by
    rw [List.map_cons]
    unfold sortBy
    rw [ins_map f x _ fun y hy => h y (by simp [(sort_perm lt xs).mem_iff.mp hy]) x (by simp), sort_map f xs fun a ha b hb => h a (by simp [ha]) b (by simp [hb])]
section
variable {α : Type} {le : α → α → Bool} (T : PySem.W.TotalLe le)
include T
theorem ins_sorted (x : α) : ∀ {xs : List α}, xs.Pairwise (fun a b => le a b = true) → (insBy (fun a b => !le b a) x xs).Pairwise (fun a b => le a b = true)
  | [], _ => by simp [insBy]
  | y :: r, h => by
    have h' := List.pairwise_cons.mp h
    unfold insBy
    by_cases e : (!le x y) = true
    · rw [if_pos e]
      have yx : le y x = true := by
        rcases T.total y x with q | q
        · exact q
        · rw [q] at e; cases e
      refine List.pairwise_cons.mpr ⟨fun z hz => ?_, ins_sorted x h'.2⟩
      rcases List.mem_cons.mp ((ins_perm _ x r).mem_iff.mp hz) with rfl | hz
      · exact yx
      · exact h'.1 z hz
    · rw [if_neg e]
      have xy : le x y = true := by
        cases q : le x y with
        | true => rfl
        | false => rw [q] at e; exact absurd rfl e
      refine List.pairwise_cons.mpr ⟨fun z hz => ?_, h⟩
      rcases List.mem_cons.mp hz with rfl | hz
      · exact xy
      · exact T.trans _ _ _ xy (h'.1 z hz)
theorem sort_sorted : ∀ xs : List α, (sortBy (fun a b => !le b a) xs).Pairwise (fun a b => le a b = true)
  | [] => List.Pairwise.nil
  | x :: xs => ins_sorted T x (sort_sorted xs)
theorem ins_filter (c x : α) : ∀ {xs : List α}, (insBy (fun a b => !le b a) x xs).filter (PySem.W.sameRank le c) = (x :: xs).filter (PySem.W.sameRank le c)
  | [] => rfl
  | y :: r => by
    unfold insBy
    by_cases e : (!le x y) = true
    · rw [if_pos e]
      have xy : le x y = false := by
        cases q : le x y with
        | true => rw [q] at e; cases e
        | false => rfl
      have ih := ins_filter c x (xs := r)
      by_cases cy : PySem.W.sameRank le c y = true
      · have cx : PySem.W.sameRank le c x = false := by
          cases q : PySem.W.sameRank le c x with
          | false => rfl
          | true =>
            unfold PySem.W.sameRank at q cy
            simp only [Bool.and_eq_true] at q cy
            have := T.trans _ _ _ q.2 cy.1
            rw [xy] at this; cases this
        rw [List.filter_cons_of_pos cy, ih, List.filter_cons_of_neg (by rw [cx]; simp), List.filter_cons_of_neg (by rw [cx]; simp), List.filter_cons_of_pos cy]
      · rw [List.filter_cons_of_neg cy, ih]
        by_cases cx : PySem.W.sameRank le c x = true
        · rw [List.filter_cons_of_pos cx, List.filter_cons_of_pos cx, List.filter_cons_of_neg cy]
        · rw [List.filter_cons_of_neg cx, List.filter_cons_of_neg cx, List.filter_cons_of_neg cy]
    · rw [if_neg e]
theorem sort_filter (c : α) : ∀ xs : List α, (sortBy (fun a b => !le b a) xs).filter (PySem.W.sameRank le c) = xs.filter (PySem.W.sameRank le c)
  | [] => rfl
  | x :: xs => by
    unfold sortBy
    rw [ins_filter T c x]
    have ih := sort_filter c xs
    by_cases q : PySem.W.sameRank le c x = true
    · rw [List.filter_cons_of_pos q, List.filter_cons_of_pos q, ih]
    · rw [List.filter_cons_of_neg q, List.filter_cons_of_neg q, ih]
theorem sort_merge (xs : List α) : xs.mergeSort le = sortBy (fun a b => !le b a) xs := (PySem.W.sort_unique T (sort_sorted T xs) fun c => sort_filter T c xs).symm
end
/-- what ordAll says -/
structure OrdAll (xs : List Tr) : Prop where
  pl : Py.plainL xs = true
  dp : Py.depL xs ≤ 60
  al : ∀ x ∈ xs, ∀ y ∈ xs, Py.alikeT x y = true
  so : PySem.W.Sortable (xs.map toD)
theorem ordAll_of {xs : List Tr} (h : Py.ordAll xs = true) : OrdAll xs := by
  unfold Py.ordAll at h
  simp only [Bool.and_eq_true, decide_eq_true_eq, List.all_eq_true, Bool.or_eq_true, Bool.not_eq_true'] at h
  refine ⟨h.1.1.1, h.1.1.2, h.1.2, ?_⟩
  rcases h.2 with q | q
  · refine .inl fun d hd => ?_
    obtain ⟨t, ht, rfl⟩ := List.mem_map.mp hd
    have := q t ht
    cases t with
    | tup ys => cases ys with
      | nil => simp [Py.isTupC] at this
      | cons y r => exact ⟨toD y, toDs r, by simp [toD, toDs]⟩
    | _ => simp [Py.isTupC] at this
  · refine .inr fun d hd => ?_
    obtain ⟨t, ht, rfl⟩ := List.mem_map.mp hd
    have z := q t ht
    have p := plainL_mem h.1.1.1 t ht
    cases t <;> simp [Py.isNone, Py.isTup] at z <;> simp [Py.plain] at p <;> simp [toD]
section
variable {K : PySem.W.Frag} {H : Hp} {B : Bn} {c : Addr}
theorem zip_rep : ∀ {ts : List Tr} {vs : List V}, RepL K H B c ts vs → ∀ p ∈ ts.zip vs, Rep K H B c p.1 p.2
  | [], _, _, _, h => by simp at h
  | t :: ts, _, r, p, h => by
    obtain ⟨v, w, rfl, h1, h2⟩ := r.inv_cons
    rw [List.zip_cons_cons] at h
    rcases List.mem_cons.mp h with rfl | h
    · exact h1
    · exact zip_rep h2 p h
theorem repL_pairs : ∀ {ps : List (Tr × V)}, (∀ p ∈ ps, Rep K H B c p.1 p.2) → RepL K H B c (ps.map (·.1)) (ps.map (·.2))
  | [], _ => RepL.nil
  | p :: ps, h => .cons (h p (by simp)) (repL_pairs fun q hq => h q (by simp [hq]))
theorem zip_fst {α β : Type} : ∀ {xs : List α} {ys : List β}, xs.length = ys.length → (xs.zip ys).map (·.1) = xs
  | [], _, _ => by simp
  | x :: xs, [], h => by simp at h
  | x :: xs, y :: ys, h => by
    rw [List.zip_cons_cons, List.map_cons, zip_fst (by simpa using h)]
theorem each_zip {R : Value → (Tr × V) → Prop} : ∀ {ts : List Tr} {vs : List V} {us : List Value}, ts.length = vs.length → Vals vs us → (∀ (j : Nat) (t : Tr) (v : V) (u : Value), ts[j]? = some t → vs[j]? = some v → us[j]? = some u → RelV v u → R u (t, v)) → PySem.W.EachIs R us (ts.zip vs)
  | [], [], _, _, .nil, _ => .nil
  | t :: ts, v :: vs, _, l, .cons r rs, h => by
    rw [List.zip_cons_cons]
    exact .cons (h 0 t v _ rfl rfl rfl r) (each_zip (by simpa using l) rs fun j t v u a b d e => h (j + 1) t v u (by simpa using a) (by simpa using b) (by simpa using d) e)
theorem vals_each : ∀ {us : List Value} {ps : List (Tr × V)}, PySem.W.EachIs (fun u p => RelV p.2 u) us ps → Vals (ps.map (·.2)) us
  | _, _, .nil => .nil
  | _, _, .cons r rs => .cons r (vals_each rs)
end
section
variable {X : L2.Cx} {c : Addr}
theorem sorted_ok {pins : List (Addr × Obj)} {σ : L2.St} {H : Hp} {s : Shared} {B : Bn} {Q : VK} {a : Addr} {vs : List V} {xs : List Tr} (I : Inv X pins σ H s) (hH : Here B c H) (hu : Roomy X) (ha : H a = some (.lst vs)) (la : RepL X.K H B c xs vs) (ok : Py.ordAll xs = true)
    (hq : AftF X.K B c H Q (.lst (Py.sortT xs))) : wpAny (model X.prog X.w) X.A (call (.builtin "sorted") [.ref a]) (EP X pins σ Q) X.xe s := by
  obtain ⟨pl, dp, al, so⟩ := ordAll_of ok
  obtain ⟨its, rv, hl, hz⟩ := I.list (SqL.of ha)
  have ll := la.length
  have lp := zip_fst ll
  have mem : ∀ p ∈ xs.zip vs, p.1 ∈ xs := fun p hp => by
    have q : p.1 ∈ (xs.zip vs).map (·.1) := List.mem_map.mpr ⟨p, hp, rfl⟩
    rw [lp] at q; exact q
  have rd : ∀ (j : Nat) (t : Tr) (v : V) (u : Value), xs[j]? = some t → vs[j]? = some v → its[j]? = some u → RelV v u → ∃ as, Reads s.heap u (toD t) as := fun j t v u h1 h2 h3 r => by
    obtain ⟨v', e1, e2⟩ := la.get h1
    rw [h2] at e1
    have e1 := Option.some.inj e1
    subst e1
    exact reads_of I e2.weak (plainL_mem pl t (List.mem_of_getElem? h1)) r
  have em : (xs.zip vs).map (fun p => toD p.1) = xs.map toD := by
    have : (xs.zip vs).map (fun p => toD p.1) = ((xs.zip vs).map (·.1)).map toD := by rw [List.map_map]; rfl
    rw [this, lp]
  refine PySem.W.sorted_data (R := fun u p => RelV p.2 u) (bs := xs.zip vs) (enc := fun p => toD p.1) hl.isList (each_zip ll rv fun _ _ _ _ _ _ _ r => r) (each_zip ll rv rd) ?_ ?_ ?_ ?_ fun out ho eo => ?_
  · rw [em]
    intro d hd d' hd'
    obtain ⟨t, ht, rfl⟩ := List.mem_map.mp hd
    obtain ⟨t', ht', rfl⟩ := List.mem_map.mp hd'
    exact alike_of (al t ht t' ht')
  · rw [em]; exact so
  · rw [List.length_zip, ll, Nat.min_self]; exact hz
  · intro p hp
    have d1 := depL_mem p.1 (mem p hp)
    have d2 := dep_toD p.1
    omega
  · have tot : PySem.W.TotalLe (PySem.W.dataLe false fun p : Tr × V => toD p.1) := PySem.W.sortLe_total _ _ _
    have le_eq : ∀ a b : Tr × V, PySem.W.dataLe false (fun p : Tr × V => toD p.1) a b = !PySem.W.dataLt (toD b.1) (toD a.1) := fun a b => by
      rw [PySem.W.dataLe_eq]; rfl
    rw [sort_merge tot] at eo
    have es : sortBy (fun a b => !PySem.W.dataLe false (fun p : Tr × V => toD p.1) b a) (xs.zip vs) = sortBy (fun a b : Tr × V => Py.ltT a.1 b.1) (xs.zip vs) := sort_congr' _ fun p hp q hq => by
      rw [le_eq, Bool.not_not]
      exact dataLt_toD _ _ (plainL_mem pl _ (mem p hp)) (plainL_mem pl _ (mem q hq)) (al _ (mem p hp) _ (mem q hq))
    rw [es] at eo
    have e1 : (sortBy (fun a b : Tr × V => Py.ltT a.1 b.1) (xs.zip vs)).map (·.1) = Py.sortT xs := by
      rw [sort_map (lt' := Py.ltT) (fun p : Tr × V => p.1) _ (fun _ _ _ _ => rfl), lp, sort_eq]
    have rr : RepL X.K H B c (Py.sortT xs) ((sortBy (fun a b : Tr × V => Py.ltT a.1 b.1) (xs.zip vs)).map (·.2)) := by
      rw [← e1]
      exact repL_pairs fun p hp => zip_rep la p ((sort_perm _ _).mem_iff.mp hp)
    obtain ⟨ep, he'⟩ := PyProof.Rows.sortedAll_at s.heap its (List.toArray out)
    have hn : H (s.heap.objs.size + 1) = none := I.hok.fresh (Nat.le_succ _)
    have hlen : ((sortBy (fun a b : Tr × V => Py.ltT a.1 b.1) (xs.zip vs)).map (·.2)).length ≤ sizeLine := by
      rw [List.length_map, (sort_perm _ _).length_eq, List.length_zip, ll, Nat.min_self]; exact hz
    exact ⟨.ref _, upd H (s.heap.objs.size + 1) (.lst _), I.laid (t' := s.toks) (fun _ _ => PyProof.Rows.sortedAll_old) (Nat.le_succ _) ⟨hlen, out, ep, vals_each eo, he'⟩, rfl, hq.newL hH hn rr⟩
theorem min_ok {pins : List (Addr × Obj)} {σ : L2.St} {H : Hp} {s : Shared} {B : Bn} {Q : VK} {v : V} {u : Value} {x : Tr} {xs : List Tr} {t : Tr} (hc : X.calm = true) (I : Inv X pins σ H s) (hH : Here B c H) (hu : Roomy X) (ht : t = .lst (x :: xs) ∨ t = .tup (x :: xs)) (r : RepW X.K H B c t v) (rv : RelV v u) (ok : Py.cmpAll (x :: xs) = true) :
    (Aft X.K B c H Q (Py.minL x xs) → wpAny (model X.prog X.w) X.A (call (.builtin "min") [u]) (EP X pins σ Q) X.xe s) ∧ (Aft X.K B c H Q (Py.maxL x xs) → wpAny (model X.prog X.w) X.A (call (.builtin "max") [u]) (EP X pins σ Q) X.xe s) := by
  have C := cmpAll_of ok
  have hh := I.ok.hd hc
  have d1 := dep_toDs (x :: xs)
  have d2 := C.dp
  -- the item that was chosen
  have fin : ∀ {vs : List V} {its : List Value} {m : Tr} (i : Nat) (w : Value) (h' : Heap) (tk : Nat) (bs : List Addr), RepL X.K H B c (x :: xs) vs → Vals vs its → m ∈ x :: xs → Aft X.K B c H Q m → its[i]? = some w → Reads h' w (toD m) bs → (∀ b o, s.heap.get? b = some o → h'.get? b = some o) → EP X pins σ Q w { s with heap := h', toks := tk } := by
    intro vs its m i w h' tk bs la rw' hm hq hi hr hk
    have J := I.kept (t' := tk) hk
    have hlt : i < its.length := (List.getElem?_eq_some_iff.mp hi).1
    have hlt' : i < (x :: xs).length := by rw [la.length, rw'.length]; exact hlt
    have ht := List.getElem?_eq_getElem hlt'
    obtain ⟨v', e1, e2⟩ := la.get ht
    obtain ⟨w', e3, e4⟩ := rw'.get e1
    rw [hi] at e3
    have e3 := Option.some.inj e3
    subst e3
    have hmem : (x :: xs)[i] ∈ x :: xs := List.getElem_mem hlt'
    obtain ⟨as, r1⟩ := reads_of J e2.weak (plainL_mem C.pl _ hmem) e4
    have e5 := PySem.W.alike_unique _ _ _ _ _ (alike_of (C.al _ hmem _ hm)) r1 hr
    have e6 := toD_inj (plainL_mem C.pl _ hmem) (plainL_mem C.pl _ hm) e5
    rw [e6] at e2
    exact ⟨v', H, J, e4, hq.same hH e2⟩
  rcases ht with rfl | rfl
  · obtain ⟨a, vs, rfl, na, ha, la⟩ := wLst r
    obtain rfl : u = Value.ref a := rv
    obtain ⟨its, rw', hl, hz⟩ := I.list (SqL.of ha)
    obtain ⟨as, ra⟩ := Dp.readsAll I (toDs (x :: xs)) vs its (la.dp C.pl) rw'
    have ra' : ReadsAll s.heap its.toArray.toList (toD x :: toDs xs) as := by simpa [toDs] using ra
    refine ⟨fun hq => ?_, fun hq => ?_⟩
    · refine PySem.W.min_list_data hh hl.isList ra' (alikeAll_of C) (by simp only [toDs] at d1; omega) fun i w h' tk bs hi hr hk => ?_
      rw [minD_toD C] at hr
      exact fin i w h' tk bs la rw' (fold_mem _ xs x) hq (by simpa using hi) hr hk
    · refine PySem.W.max_list_data hh hl.isList ra' (alikeAll_of C) (by simp only [toDs] at d1; omega) fun i w h' tk bs hi hr hk => ?_
      rw [maxD_toD C] at hr
      exact fin i w h' tk bs la rw' (fold_mem (fun y a => Py.ltT a y) xs x) hq (by simpa using hi) hr hk
  · obtain ⟨a, vs, rfl, na, ha, la⟩ := wTup r
    obtain rfl : u = Value.ref a := rv
    obtain ⟨its, rw', hl, hz⟩ := I.tuple (SqT.of ha)
    obtain ⟨as, ra⟩ := Dp.readsAll I (toDs (x :: xs)) vs its (la.dp C.pl) rw'
    have ra' : ReadsAll s.heap its.toArray.toList (toD x :: toDs xs) as := by simpa [toDs] using ra
    refine ⟨fun hq => ?_, fun hq => ?_⟩
    · refine PySem.W.min_tuple_data hh hl ra' (alikeAll_of C) (by simp only [toDs] at d1; omega) fun i w h' tk bs hi hr hk => ?_
      rw [minD_toD C] at hr
      exact fin i w h' tk bs la rw' (fold_mem _ xs x) hq (by simpa using hi) hr hk
    · refine PySem.W.max_tuple_data hh hl ra' (alikeAll_of C) (by simp only [toDs] at d1; omega) fun i w h' tk bs hi hr hk => ?_
      rw [maxD_toD C] at hr
      exact fin i w h' tk bs la rw' (fold_mem (fun y a => Py.ltT a y) xs x) hq (by simpa using hi) hr hk
theorem min2_ok {pins : List (Addr × Obj)} {σ : L2.St} {H : Hp} {s : Shared} {B : Bn} {Q : VK} {v w' : V} {u u' : Value} {x y : Tr} (hc : X.calm = true) (I : Inv X pins σ H s) (hH : Here B c H) (hu : Roomy X) (rx : Rep X.K H B c x v) (ry : Rep X.K H B c y w') (rv : RelV v u) (rv' : RelV w' u') (ok : Py.cmpAll [x, y] = true) :
    (Aft X.K B c H Q (Py.minL x [y]) → wpAny (model X.prog X.w) X.A (call (.builtin "min") [u, u']) (EP X pins σ Q) X.xe s) ∧ (Aft X.K B c H Q (Py.maxL x [y]) → wpAny (model X.prog X.w) X.A (call (.builtin "max") [u, u']) (EP X pins σ Q) X.xe s) := by
  have C := cmpAll_of ok
  have hh := I.ok.hd hc
  have d1 := dep_toDs [x, y]
  have d2 := C.dp
  have la : RepL X.K H B c [x, y] [v, w'] := .cons rx (.cons ry .nil)
  have rw' : Vals [v, w'] [u, u'] := .cons rv (.cons rv' .nil)
  have fin : ∀ {m : Tr} (i : Nat) (w : Value) (h' : Heap) (tk : Nat) (bs : List Addr), m ∈ [x, y] → Aft X.K B c H Q m → [u, u'][i]? = some w → Reads h' w (toD m) bs → (∀ b o, s.heap.get? b = some o → h'.get? b = some o) → EP X pins σ Q w { s with heap := h', toks := tk } := by
    intro m i w h' tk bs hm hq hi hr hk
    have J := I.kept (t' := tk) hk
    have hlt : i < [u, u'].length := (List.getElem?_eq_some_iff.mp hi).1
    have hlt' : i < [x, y].length := hlt
    have ht := List.getElem?_eq_getElem hlt'
    obtain ⟨v', e1, e2⟩ := la.get ht
    obtain ⟨w', e3, e4⟩ := rw'.get e1
    rw [hi] at e3
    have e3 := Option.some.inj e3
    subst e3
    have hmem : [x, y][i] ∈ [x, y] := List.getElem_mem hlt'
    obtain ⟨as, r1⟩ := reads_of J e2.weak (plainL_mem C.pl _ hmem) e4
    have e5 := PySem.W.alike_unique _ _ _ _ _ (alike_of (C.al _ hmem _ hm)) r1 hr
    have e6 := toD_inj (plainL_mem C.pl _ hmem) (plainL_mem C.pl _ hm) e5
    rw [e6] at e2
    exact ⟨v', H, J, e4, hq.same hH e2⟩
  obtain ⟨as, ra⟩ := Dp.readsAll I (toDs [x, y]) _ _ (la.dp C.pl) rw'
  have ra' : ReadsAll s.heap [u, u'] [toD x, toD y] as := by simpa [toDs] using ra
  have al : PySem.W.AlikeAll [toD x, toD y] := by simpa [toDs] using alikeAll_of C
  have dd : X.A.units + 1 + PyData.depthAll [toD x, toD y] < cLine := by
    have : PyData.depthAll (toDs [x, y]) = PyData.depthAll [toD x, toD y] := by simp [toDs]
    have hu' := hu
    unfold Roomy at hu'
    omega
  refine ⟨fun hq => ?_, fun hq => ?_⟩
  · refine PySem.W.min_two_data hh ra' al dd fun i w h' tk bs hi hr hk => ?_
    rw [show [toD y] = toDs [y] by simp [toDs], minD_toD C] at hr
    exact fin i w h' tk bs (fold_mem _ [y] x) hq hi hr hk
  · refine PySem.W.max_two_data hh ra' al dd fun i w h' tk bs hi hr hk => ?_
    rw [show [toD y] = toDs [y] by simp [toDs], maxD_toD C] at hr
    exact fin i w h' tk bs (fold_mem (fun y a => Py.ltT a y) [y] x) hq hi hr hk
end
end Snd

set_option Elab.async false
set_option linter.all false
set_option maxRecDepth 100000
set_option maxHeartbeats 2000000
namespace Snd
open PySem PySem.Spec L2
open PyProof.Rows hiding St
/-- values for trees, weakly -/
def RepWs (K : PySem.W.Frag) (H : Hp) (B : Bn) (c : Addr) : List Tr → List V → Prop
  | [], vs => vs = []
  | t :: ts, vs => ∃ v w, vs = v :: w ∧ RepW K H B c t v ∧ RepWs K H B c ts w
section
variable {K : PySem.W.Frag} {H H' : Hp} {B : Bn} {c : Addr}
theorem RepWs.one {t : Tr} {vs : List V} (r : RepWs K H B c [t] vs) : ∃ v, vs = [v] ∧ RepW K H B c t v := by
  obtain ⟨v, w, rfl, h, e⟩ := r
  exact ⟨v, by rw [show w = [] from e], h⟩
theorem RepWs.two {t u : Tr} {vs : List V} (r : RepWs K H B c [t, u] vs) : ∃ v w, vs = [v, w] ∧ RepW K H B c t v ∧ RepW K H B c u w := by
  obtain ⟨v, w, rfl, h, r⟩ := r
  obtain ⟨w, rfl, h2⟩ := r.one
  exact ⟨v, w, rfl, h, h2⟩
theorem RepWs.ext (x : Ext c H H') : ∀ {ts : List Tr} {vs : List V}, RepWs K H B c ts vs → RepWs K H' B c ts vs
  | [], _, r => r
  | t :: ts, _, ⟨v, w, e, h, r⟩ => ⟨v, w, e, h.ext x, RepWs.ext x r⟩
theorem RepWs.length : ∀ {ts : List Tr} {vs : List V}, RepWs K H B c ts vs → ts.length = vs.length
  | [], _, r => by rw [show _ = [] from r]; rfl
  | t :: ts, _, ⟨v, w, e, h, r⟩ => by rw [e]; simp [RepWs.length r]
end
/-- a call by trees -/
def rN (K : PySem.W.Frag) (c : Addr) (f : List Tr → Py.M Tr) : List V → Hp → VK → Prop := fun xs H Q => ∃ (B : Bn) (ts : List Tr), Here B c H ∧ RepWs K H B c ts xs ∧ WP (f ts) (Aft K B c H Q)
/-- .. that hands on something new -/
def rNF (K : PySem.W.Frag) (c : Addr) (f : List Tr → Py.M Tr) : List V → Hp → VK → Prop := fun xs H Q => ∃ (B : Bn) (ts : List Tr), Here B c H ∧ RepWs K H B c ts xs ∧ WP (f ts) (AftF K B c H Q)
section
variable {X : L2.Cx} {c : Addr}
theorem items_wp {t : Tr} {f : List Tr → Py.M Tr} {Q : Tr → Prop} (h : WP ((Py.itemsM t).bind f) Q) : (∃ xs, (t = .tup xs ∨ t = .lst xs) ∧ WP (f xs) Q) ∨ ∃ kvs, t = .dct kvs ∧ WP (f (kvs.map (·.1))) Q := by
  cases t with
  | tup xs => exact .inl ⟨xs, .inl rfl, h⟩
  | lst xs => exact .inl ⟨xs, .inr rfl, h⟩
  | dct kvs => exact .inr ⟨kvs, rfl, h⟩
  | _ => exact False.elim h
theorem cb_len : CallR X (.builtin "len") (rNF X.K c (Py.biM .len)) := by
  intro pins s σ H xs us Q I r ⟨B, ts, hH, hr, hw⟩
  match ts, hr, hw with
  | [], _, hw => exact False.elim hw
  | [t], hr, hw =>
    obtain ⟨v, rfl, h1⟩ := hr.one
    cases t with
    | tup ys =>
      obtain ⟨a, vs, rfl, na, ha, la⟩ := wTup h1
      have hq : AftF X.K B c H Q (.int ys.length) := hw
      rw [la.length] at hq
      exact call_len pins s σ H _ us Q I r ⟨_, vs.length, rfl, .inr ⟨vs, SqT.of ha, rfl⟩, hq.same hH (show Rep X.K H B c _ _ from repI)⟩
    | lst ys =>
      obtain ⟨a, vs, rfl, na, ha, la⟩ := wLst h1
      have hq : AftF X.K B c H Q (.int ys.length) := hw
      rw [la.length] at hq
      exact call_len pins s σ H _ us Q I r ⟨_, vs.length, rfl, .inl ⟨vs, SqL.of ha, rfl⟩, hq.same hH (show Rep X.K H B c _ _ from repI)⟩
    | str z =>
      have e := wStr h1; subst e
      obtain ⟨hz, hq⟩ := wp_ifs (show WP (if z.length ≤ Py.lim then .ret (.int z.length) else .stuck) (AftF X.K B c H Q) from hw)
      have e : ((⟨z.toArray⟩ : Str)).length = z.length := by show z.toArray.size = _; simp
      refine call_len pins s σ H _ us Q I r ⟨_, z.length, rfl, ⟨by rw [e, ← lim_line]; exact hz, e.symm⟩, ?_⟩
      exact AftF.same (show AftF X.K B c H Q (.int z.length) from hq) hH (show Rep X.K H B c _ _ from repI)
    | dct kvs =>
      have hq : AftF X.K B c H Q (.int kvs.length) := hw
      obtain ⟨a, vs, rfl, na, rv, hd⟩ := h1
      obtain ⟨u, rfl, ru⟩ := vals1 r
      obtain rfl : u = Value.ref a := ru
      have ll := rv.length
      rcases hd with ⟨ks, l, e, rd⟩ | ⟨ks, l, e, rd⟩
      · refine d_len I rd.rd fun t s' I' => ⟨.int kvs.length, H, I', ⟨t, ?_⟩, hq.same hH (show Rep X.K H B c _ _ from repI)⟩
        rw [zip_len l, ← ll]
      · obtain ⟨z1, z2, xs', z3, z4⟩ := dt_rd I.hok rd.rd
        have z5 : xs'.length = kvs.length := by rw [← z3.length, zip_len l, ll]
        have z6 : kvs.length ≤ sizeLine := by rw [ll, ← zip_len l]; exact z1
        refine call_len_dictH z2 z4 (by rw [z5]; have := line63; omega) ?_
        exact ⟨.int kvs.length, H, I.tok _, ⟨_, by rw [z5]⟩, hq.same hH (show Rep X.K H B c _ _ from repI)⟩
    | _ => exact False.elim hw
  | t :: t' :: ts, _, hw => exact False.elim (by cases t <;> exact hw)
theorem cb_abs : CallR X (.builtin "abs") (rNF X.K c (Py.biM .abs)) := by
  intro pins s σ H xs us Q I r ⟨B, ts, hH, hr, hw⟩
  match ts, hr, hw with
  | [], _, hw => exact False.elim hw
  | [t], hr, hw =>
    obtain ⟨v, rfl, h1⟩ := hr.one
    cases t with
    | int i =>
      have e := wInt h1; subst e
      have hq : AftF X.K B c H Q (.int (if i < 0 then -i else i)) := hw
      exact call_abs pins s σ H _ us Q I r ⟨i, rfl, hq.same hH (show Rep X.K H B c _ _ from repI)⟩
    | _ => exact False.elim hw
  | t :: t' :: ts, _, hw => exact False.elim (by cases t <;> exact hw)
theorem cb_int : CallR X (.type "int") (rNF X.K c (Py.biM .int)) := by
  intro pins s σ H xs us Q I r ⟨B, ts, hH, hr, hw⟩
  match ts, hr, hw with
  | [], _, hw => exact False.elim hw
  | [t], hr, hw =>
    obtain ⟨v, rfl, h1⟩ := hr.one
    cases t with
    | int i =>
      have e := wInt h1; subst e
      have hq : AftF X.K B c H Q (.int i) := hw
      exact call_int1 pins s σ H _ us Q I r (.inl ⟨i, rfl, hq.same hH (show Rep X.K H B c _ _ from repI)⟩)
    | bl b =>
      have e := wBl h1; subst e
      have hq : AftF X.K B c H Q (.int (if b then 1 else 0)) := hw
      exact call_int1 pins s σ H _ us Q I r (.inr ⟨b, rfl, hq.same hH (show Rep X.K H B c _ _ from repI)⟩)
    | _ => exact False.elim hw
  | t :: t' :: ts, _, hw => exact False.elim (by cases t <;> exact hw)
theorem cb_str : CallR X (.type "str") (rNF X.K c (Py.biM .str)) := by
  intro pins s σ H xs us Q I r ⟨B, ts, hH, hr, hw⟩
  match ts, hr, hw with
  | [], _, hw => exact False.elim hw
  | [t], hr, hw =>
    obtain ⟨v, rfl, h1⟩ := hr.one
    cases t with
    | str z =>
      have e := wStr h1; subst e
      have hq : AftF X.K B c H Q (.str z) := hw
      exact SkE.call_str_str pins s σ H _ us Q I r ⟨_, rfl, hq.same hH (show Rep X.K H B c _ _ from repS)⟩
    | _ => exact False.elim hw
  | t :: t' :: ts, _, hw => exact False.elim (by cases t <;> exact hw)
theorem sumL_rep {K : PySem.W.Frag} {H : Hp} {B : Bn} : ∀ {xs : List Tr} {vs : List V} {n : Int}, Py.sumL xs = some n → RepL K H B c xs vs → ∃ ns : List Int, vs = ns.map V.int ∧ ns.sum = n
  | [], _, n, h, r => by
    simp only [Py.sumL, Option.some.injEq] at h
    exact ⟨[], r.inv_nil, by simpa using h⟩
  | x :: xs, _, n, h, r => by
    obtain ⟨v, w, rfl, h1, h2⟩ := r.inv_cons
    cases x with
    | int i =>
      simp only [Py.sumL] at h
      cases q : Py.sumL xs with
      | none => rw [q] at h; cases h
      | some m =>
        rw [q] at h
        obtain ⟨ns, e1, e2⟩ := sumL_rep q h2
        have e3 := wInt (show RepW K H B c (.int i) v from h1)
        refine ⟨i :: ns, by rw [e1, e3]; rfl, ?_⟩
        rw [List.sum_cons, e2]
        simpa using h
    | _ => simp [Py.sumL] at h
theorem preSum_getD (ns : List Int) : ∀ k, k ≤ ns.length → preSum (fun i => ns.getD i 0) k = (ns.take k).sum
  | 0, _ => by simp [preSum]
  | k + 1, h => by
    rw [preSum, preSum_getD ns k (by omega)]
    have e : ns.take (k + 1) = ns.take k ++ [ns[k]] := by rw [List.take_succ_eq_append_getElem (by omega)]
    rw [e, List.sum_append, List.getD_eq_getElem?_getD, List.getElem?_eq_getElem (by omega)]
    simp
theorem cb_sum (hc : X.calm = true) : CallR X (.builtin "sum") (rNF X.K c (Py.biM .sum)) := by
  intro pins s σ H xs us Q I r ⟨B, ts, hH, hr, hw⟩
  match ts, hr, hw with
  | [], _, hw => exact False.elim hw
  | [t], hr, hw =>
    obtain ⟨v, rfl, h1⟩ := hr.one
    cases t with
    | lst ys =>
      obtain ⟨a, vs, rfl, na, ha, la⟩ := wLst h1
      have hw' : WP (match Py.sumL ys with | some n => .ret (.int n) | none => .stuck) (AftF X.K B c H Q) := hw
      cases q : Py.sumL ys with
      | none => rw [q] at hw'; exact hw'.elim
      | some n =>
        rw [q] at hw'
        obtain ⟨ns, rfl, e⟩ := sumL_rep q la
        refine cr_sum hc pins s σ H _ us Q I r ⟨a, ns, rfl, SqL.of ha, ?_⟩
        rw [e]
        exact AftF.same (show AftF X.K B c H Q (.int n) from hw') hH (show Rep X.K H B c _ _ from repI)
    | tup ys =>
      obtain ⟨a, vs, rfl, na, ha, la⟩ := wTup h1
      have hw' : WP (match Py.sumL ys with | some n => .ret (.int n) | none => .stuck) (AftF X.K B c H Q) := hw
      cases q : Py.sumL ys with
      | none => rw [q] at hw'; exact hw'.elim
      | some n =>
        rw [q] at hw'
        obtain ⟨ns, rfl, e⟩ := sumL_rep q la
        obtain ⟨u, rfl, ru⟩ := vals1 r
        obtain rfl : u = Value.ref a := ru
        have hh := I.ok.hd hc
        obtain ⟨its, rw', hl, hz⟩ := I.tuple (SqT.of ha)
        have hi := Vals.ints rw'
        have ln := hi.length
        refine call_sum_walkAnyS (PySem.W.iter_tupleW (A := X.A.in1) hh hl fun s₂ es W st hfp hw1 hk => ?_)
        refine ⟨_, _, _, _, _, _, _, fun i => ns.getD i 0, rfl, W, st, hfp, fun i v hv => ?_, fun s' t' mv => ?_⟩
        · have hlt : i < its.length := by
            have := (Array.getElem?_eq_some_iff.mp hv).1
            simpa using this
          have hlt2 : i < ns.length := by omega
          obtain ⟨w', e3, e4⟩ := rw'.get (i := i) (x := V.int ns[i]) (by rw [List.getElem?_map, List.getElem?_eq_getElem hlt2]; rfl)
          have hv' : its[i]? = some v := by simpa using hv
          rw [hv'] at e3
          obtain ⟨t, et⟩ := e4
          refine ⟨t, ?_⟩
          show v = Value.int (ns.getD i 0) t
          rw [List.getD_eq_getElem?_getD, List.getElem?_eq_getElem hlt2, Option.some.inj e3, et]
          rfl
        · obtain ⟨h', tk, rfl, hk'⟩ := PySem.W.moved_old es rfl mv
          have e2 : preSum (fun i => ns.getD i 0) its.toArray.size = n := by
            rw [List.size_toArray, ln, preSum_getD ns _ (Nat.le_refl _), List.take_length, e]
          rw [e2]
          exact ⟨.int n, H, I.kept hk', ⟨_, rfl⟩, AftF.same (show AftF X.K B c H Q (.int n) from hw') hH (show Rep X.K H B c _ _ from repI)⟩
    | _ => exact False.elim hw
  | t :: t' :: ts, _, hw => exact False.elim (by cases t <;> exact hw)
theorem bools_rep {K : PySem.W.Frag} {H : Hp} {B : Bn} : ∀ {xs : List Tr} {vs : List V} {bs : List Bool}, Py.bools xs = some bs → RepL K H B c xs vs → vs = bs.map V.bl
  | [], _, bs, h, r => by
    simp only [Py.bools, Option.some.injEq] at h
    subst h
    exact r.inv_nil
  | x :: xs, _, bs, h, r => by
    obtain ⟨v, w, rfl, h1, h2⟩ := r.inv_cons
    cases x with
    | bl i =>
      simp only [Py.bools] at h
      cases q : Py.bools xs with
      | none => rw [q] at h; cases h
      | some m =>
        rw [q] at h
        have h' : i :: m = bs := by simpa using h
        subst h'
        rw [bools_rep q h2, wBl (show RepW K H B c (.bl i) v from h1)]; rfl
    | _ => simp [Py.bools] at h
theorem cb_all (hc : X.calm = true) : CallR X (.builtin "all") (rNF X.K c (Py.biM .all)) := by
  intro pins s σ H xs us Q I r ⟨B, ts, hH, hr, hw⟩
  match ts, hr, hw with
  | [], _, hw => exact False.elim hw
  | [t], hr, hw =>
    obtain ⟨v, rfl, h1⟩ := hr.one
    cases t with
    | lst ys =>
      obtain ⟨a, vs, rfl, na, ha, la⟩ := wLst h1
      have hw' : WP (match Py.bools ys with | some bs => .ret (.bl (bs.all id)) | none => .stuck) (AftF X.K B c H Q) := hw
      cases q : Py.bools ys with
      | none => rw [q] at hw'; exact hw'.elim
      | some bs =>
        rw [q] at hw'
        have e := bools_rep q la
        subst e
        exact cr_all hc pins s σ H _ us Q I r ⟨a, bs, rfl, SqL.of ha, AftF.same (show AftF X.K B c H Q (.bl (bs.all id)) from hw') hH (show Rep X.K H B c _ _ from repB)⟩
    | _ => exact False.elim hw
  | t :: t' :: ts, _, hw => exact False.elim (by cases t <;> exact hw)
theorem cb_any (hc : X.calm = true) : CallR X (.builtin "any") (rNF X.K c (Py.biM .any)) := by
  intro pins s σ H xs us Q I r ⟨B, ts, hH, hr, hw⟩
  match ts, hr, hw with
  | [], _, hw => exact False.elim hw
  | [t], hr, hw =>
    obtain ⟨v, rfl, h1⟩ := hr.one
    cases t with
    | lst ys =>
      obtain ⟨a, vs, rfl, na, ha, la⟩ := wLst h1
      have hw' : WP (match Py.bools ys with | some bs => .ret (.bl (bs.any id)) | none => .stuck) (AftF X.K B c H Q) := hw
      cases q : Py.bools ys with
      | none => rw [q] at hw'; exact hw'.elim
      | some bs =>
        rw [q] at hw'
        have e := bools_rep q la
        subst e
        exact cr_any hc pins s σ H _ us Q I r ⟨a, bs, rfl, SqL.of ha, AftF.same (show AftF X.K B c H Q (.bl (bs.any id)) from hw') hH (show Rep X.K H B c _ _ from repB)⟩
    | _ => exact False.elim hw
  | t :: t' :: ts, _, hw => exact False.elim (by cases t <;> exact hw)
theorem cb_min2 (hc : X.calm = true) (hu : Roomy X) : CallR X (.builtin "min") (rN X.K c (Py.biM .min2)) := by
  intro pins s σ H xs us Q I r ⟨B, ts, hH, hr, hw⟩
  match ts, hr, hw with
  | [], _, hw => exact False.elim hw
  | [t], _, hw => exact False.elim (by cases t <;> exact hw)
  | [t, t'], hr, hw =>
    obtain ⟨v, w, rfl, h1, h2⟩ := hr.two
    obtain ⟨u, u', rfl, ru, ru'⟩ := vals2 r
    cases t with
    | int i => cases t' with
      | int j =>
        have e := wInt h1; subst e
        have e := wInt h2; subst e
        have hq : Aft X.K B c H Q (.int (if j < i then j else i)) := hw
        exact call_min2 hc pins s σ H _ _ Q I r ⟨i, j, rfl, hq.same hH (show Rep X.K H B c _ _ from repI)⟩
      | _ => exact False.elim hw
    | tup ys => cases t' with
      | tup zs =>
        obtain ⟨ok, hq⟩ := wp_ifs (show WP (if Py.cmpAll [.tup ys, .tup zs] = true then .ret (Py.minL (.tup ys) [.tup zs]) else .stuck) (Aft X.K B c H Q) from hw)
        exact (min2_ok hc I hH hu (by simpa only [RepW] using h1) (by simpa only [RepW] using h2) ru ru' ok).1 hq
      | _ => exact False.elim hw
    | _ => exact False.elim hw
  | t :: t' :: t'' :: ts, _, hw => exact False.elim (by cases t <;> cases t' <;> exact hw)
theorem cb_max2 (hc : X.calm = true) (hu : Roomy X) : CallR X (.builtin "max") (rN X.K c (Py.biM .max2)) := by
  intro pins s σ H xs us Q I r ⟨B, ts, hH, hr, hw⟩
  match ts, hr, hw with
  | [], _, hw => exact False.elim hw
  | [t], _, hw => exact False.elim (by cases t <;> exact hw)
  | [t, t'], hr, hw =>
    obtain ⟨v, w, rfl, h1, h2⟩ := hr.two
    obtain ⟨u, u', rfl, ru, ru'⟩ := vals2 r
    cases t with
    | int i => cases t' with
      | int j =>
        have e := wInt h1; subst e
        have e := wInt h2; subst e
        have hq : Aft X.K B c H Q (.int (if j > i then j else i)) := hw
        exact call_max2 hc pins s σ H _ _ Q I r ⟨i, j, rfl, hq.same hH (show Rep X.K H B c _ _ from repI)⟩
      | _ => exact False.elim hw
    | tup ys => cases t' with
      | tup zs =>
        obtain ⟨ok, hq⟩ := wp_ifs (show WP (if Py.cmpAll [.tup ys, .tup zs] = true then .ret (Py.maxL (.tup ys) [.tup zs]) else .stuck) (Aft X.K B c H Q) from hw)
        exact (min2_ok hc I hH hu (by simpa only [RepW] using h1) (by simpa only [RepW] using h2) ru ru' ok).2 hq
      | _ => exact False.elim hw
    | _ => exact False.elim hw
  | t :: t' :: t'' :: ts, _, hw => exact False.elim (by cases t <;> cases t' <;> exact hw)
theorem itemsS_wp {t : Tr} {f : List Tr → Py.M Tr} {Q : Tr → Prop} (h : WP ((Py.itemsS t).bind f) Q) : ∃ xs, (t = .lst xs ∨ t = .tup xs) ∧ WP (f xs) Q := by
  cases t with
  | tup xs => exact ⟨xs, .inr rfl, h⟩
  | lst xs => exact ⟨xs, .inl rfl, h⟩
  | _ => exact False.elim h
theorem cb_min (hc : X.calm = true) (hu : Roomy X) : CallR X (.builtin "min") (rN X.K c (Py.biM .min)) := by
  intro pins s σ H xs us Q I r ⟨B, ts, hH, hr, hw⟩
  match ts, hr, hw with
  | [], _, hw => exact False.elim hw
  | [t], hr, hw =>
    obtain ⟨v, rfl, h1⟩ := hr.one
    obtain ⟨u, rfl, ru⟩ := vals1 r
    obtain ⟨ys, ht, hq⟩ := itemsS_wp (t := t) (show WP ((Py.itemsS t).bind fun xs => (match xs with | x :: r => if Py.cmpAll (x :: r) then .ret (Py.minL x r) else .stuck | [] => .stuck)) (Aft X.K B c H Q) from hw)
    cases ys with
    | nil => exact hq.elim
    | cons y ys =>
      obtain ⟨ok, hq⟩ := wp_ifs hq
      exact (min_ok hc I hH hu ht h1 ru ok).1 hq
  | t :: t' :: ts, _, hw => exact False.elim (by cases t <;> exact hw)
theorem cb_max (hc : X.calm = true) (hu : Roomy X) : CallR X (.builtin "max") (rN X.K c (Py.biM .max)) := by
  intro pins s σ H xs us Q I r ⟨B, ts, hH, hr, hw⟩
  match ts, hr, hw with
  | [], _, hw => exact False.elim hw
  | [t], hr, hw =>
    obtain ⟨v, rfl, h1⟩ := hr.one
    obtain ⟨u, rfl, ru⟩ := vals1 r
    obtain ⟨ys, ht, hq⟩ := itemsS_wp (t := t) (show WP ((Py.itemsS t).bind fun xs => (match xs with | x :: r => if Py.cmpAll (x :: r) then .ret (Py.maxL x r) else .stuck | [] => .stuck)) (Aft X.K B c H Q) from hw)
    cases ys with
    | nil => exact hq.elim
    | cons y ys =>
      obtain ⟨ok, hq⟩ := wp_ifs hq
      exact (min_ok hc I hH hu ht h1 ru ok).2 hq
  | t :: t' :: ts, _, hw => exact False.elim (by cases t <;> exact hw)
theorem repL_keys {K : PySem.W.Frag} {H : Hp} {B : Bn} : ∀ (ks : List Key), RepL K H B c (ks.map kT) (ks.map kV)
  | [] => RepL.nil
  | k :: ks => .cons (rep_kT.mpr rfl) (repL_keys ks)
theorem repL_keysT {K : PySem.W.Frag} {H : Hp} {B : Bn} (hH : Here B c H) : ∀ {ks : List (List Key)} {bs : List Addr}, ks.length = bs.length → (∀ (j : Nat) (k : List Key) (b : Addr), ks[j]? = some k → bs[j]? = some b → H b = some (.tup (k.map kV))) → RepL K H B c (ks.map kTs) (bs.map V.ref)
  | [], [], _, _ => RepL.nil
  | [], _ :: _, l, _ => by simp at l
  | _ :: _, [], l, _ => by simp at l
  | k :: ks, b :: bs, l, h => by
    have hb := h 0 k b rfl rfl
    have nb : b ≠ c := fun e => by
      obtain ⟨x, y, e2, _⟩ := hH.cup
      rw [e, e2] at hb
      cases hb
    refine .cons (by simp only [kTs, Rep]; exact ⟨b, _, rfl, nb, hb, repL_keys k⟩) (repL_keysT hH (by simpa using l) fun j k b h1 h2 => h (j + 1) k b (by simpa using h1) (by simpa using h2))
theorem isKeys_at {H : Hp} : ∀ {kvs : List (List Key × V)} {bs : List Addr}, IsKeys H kvs bs → kvs.length = bs.length ∧ ∀ (j : Nat) (k : List Key) (b : Addr), (kvs.map (·.1))[j]? = some k → bs[j]? = some b → H b = some (.tup (k.map kV))
  | _, _, .nil => ⟨rfl, fun j k b h => by simp at h⟩
  | _, _, .cons r rs => by
    obtain ⟨l, h⟩ := isKeys_at rs
    refine ⟨by simp [l], fun j k b h1 h2 => ?_⟩
    cases j with
    | zero => simp at h1 h2; subst h1; subst h2; exact r
    | succ j => exact h j k b (by simpa using h1) (by simpa using h2)
end
mutual
theorem reads_in {h : Heap} : ∀ (d : PyData) (v : Value) (as : List Addr), PySem.W.alike d d = true → Reads h v d as → ∀ a ∈ as, a < h.objs.size
  | .none, _, _, _, r, _, m => by cases r; cases m
  | .bool _, _, _, _, r, _, m => by cases r; cases m
  | .int _, _, _, _, r, _, m => by cases r; cases m
  | .str _, _, _, _, r, _, m => by cases r; cases m
  | .list xs, _, _, hal, r, a, m => by
    cases r with
    | list h1 h2 h3 h4 =>
      rcases List.mem_cons.mp m with rfl | m
      · exact Heap.lt_size h1
      · exact readsAll_in xs _ _ (by simpa [PySem.W.alike] using hal) h4 a m
  | .tuple xs, _, _, hal, r, a, m => by
    cases r with
    | tuple h1 h2 h3 h4 => exact readsAll_in xs _ _ (by simpa [PySem.W.alike] using hal) h4 a m
  | .dict _, _, _, hal, _, _, _ => absurd hal (by simp [PySem.W.alike])
theorem readsAll_in {h : Heap} : ∀ (ds : List PyData) (vs : List Value) (as : List Addr), PySem.W.alikeAll ds ds = true → ReadsAll h vs ds as → ∀ a ∈ as, a < h.objs.size
  | [], _, _, _, r, _, m => by cases r; cases m
  | d :: ds, _, _, hal, r, a, m => by
    cases r with
    | cons h1 h2 =>
      rcases List.mem_append.mp m with m | m
      · exact reads_in d _ _ (PySem.W.alike_all_cons hal).1 h1 a m
      · exact readsAll_in ds _ _ (PySem.W.alike_all_cons hal).2 h2 a m
end
section
variable {X : L2.Cx} {c : Addr}
/-- sorted over whatever is collected -/
theorem sorted_col {pins : List (Addr × Obj)} {σ : L2.St} {H : Hp} {s : Shared} {B : Bn} {Q : VK} {r : Addr} {xs : List Tr} (I : Inv X pins σ H s) (hH : Here B c H) (hu : Roomy X)
    (col : ∀ R : List Value → Shared → Prop, (∀ (h' : Heap) (tk : Nat) (its : List Value) (vs : List V), (∀ b o, s.heap.get? b = some o → h'.get? b = some o) → Vals vs its → RepL X.K H B c xs vs → its.length ≤ sizeLine → R its { s with heap := h', toks := tk }) → wpAny (model X.prog X.w) X.A.in1 (PySem.collect (.ref r)) R X.xe s)
    (ok : Py.ordAll xs = true) (hq : AftF X.K B c H Q (.lst (Py.sortT xs))) : wpAny (model X.prog X.w) X.A (call (.builtin "sorted") [.ref r]) (EP X pins σ Q) X.xe s := by
  obtain ⟨pl, dp, al, so⟩ := ordAll_of ok
  refine Calls.call_function_entry PyProof.Rows.kind_sorted PyProof.Rows.plain_sorted PyProof.Rows.entry_sorted (PyProof.Rows.args_sorted1 _) ?_
  unfold Builtin.«sorted»
  refine wpAny_bind (m := checkCount "sorted" 1 1 _) (wpAny_pure ?_)
  refine wpAny_bind (col _ fun h' tk its vs hk rv la hz => ?_)
  have I1 : Inv X pins σ H { s with heap := h', toks := tk } := I.kept hk
  refine wpAny_bind (wpAny_newList ?_ hz)
  have hoL : (h'.push (seqObj "list" its.toArray 0)).get? h'.objs.size = some (seqObj "list" its.toArray 0) := Heap.get?_push_size _ rfl
  have I2 : Inv X pins σ H { s with heap := h'.push (seqObj "list" its.toArray 0), toks := tk } := I1.kept (t' := tk) fun b o e => Heap.get?_push_of_some _ e
  show wpAny _ _ _ _ _ { s with heap := h'.push (seqObj "list" its.toArray 0), toks := tk }
  have ll := la.length
  have lp := zip_fst ll
  have lv := rv.length
  have mem : ∀ p ∈ xs.zip vs, p.1 ∈ xs := fun p hp => by
    have q : p.1 ∈ (xs.zip vs).map (·.1) := List.mem_map.mpr ⟨p, hp, rfl⟩
    rw [lp] at q; exact q
  have em : (xs.zip vs).map (fun p => toD p.1) = xs.map toD := by
    have : (xs.zip vs).map (fun p => toD p.1) = ((xs.zip vs).map (·.1)).map toD := by rw [List.map_map]; rfl
    rw [this, lp]
  have rd : ∀ (j : Nat) (t : Tr) (v : V) (u : Value), xs[j]? = some t → vs[j]? = some v → its[j]? = some u → RelV v u → ∃ as, Reads (h'.push (seqObj "list" its.toArray 0)) u (toD t) as ∧ h'.objs.size ∉ as := fun j t v u h1 h2 h3 r => by
    obtain ⟨v', e1, e2⟩ := la.get h1
    rw [h2] at e1
    have e1 := Option.some.inj e1
    subst e1
    obtain ⟨as, ra⟩ := reads_of I1 e2.weak (plainL_mem pl t (List.mem_of_getElem? h1)) r
    refine ⟨as, PyProof.Rows.Reads.keeps (fun b o e => Heap.get?_push_of_some _ e) ra, fun m => ?_⟩
    have := reads_in _ _ _ (alike_of (al t (List.mem_of_getElem? h1) t (List.mem_of_getElem? h1))) ra _ m
    exact Nat.lt_irrefl _ this
  refine wpAny_bind (wpAny_holding (wpAny_mono (PySem.W.list_sort_data (A := X.A.in1) (s := { s with heap := h'.push (seqObj "list" its.toArray 0), toks := tk }) (R := fun u p => RelV p.2 u) (bs := xs.zip vs) (enc := fun p => toD p.1)
    (Q := fun _ s' => EP X pins σ Q (.ref h'.objs.size) s') hoL (each_zip ll rv fun _ _ _ _ _ _ _ r => r) (each_zip ll rv rd) ?_ ?_ ?_ ?_ fun out ho eo => ?_) (fun _ s' x => wpAny_pure ⟨_, rfl, x⟩) fun _ _ e => e))
  · rw [em]
    intro d hd d' hd'
    obtain ⟨t, ht, rfl⟩ := List.mem_map.mp hd
    obtain ⟨t', ht', rfl⟩ := List.mem_map.mp hd'
    exact alike_of (al t ht t' ht')
  · rw [em]; exact so
  · rw [List.length_zip, ll, Nat.min_self, lv]; exact hz
  · intro p hp
    have d1 := depL_mem p.1 (mem p hp)
    have d2 := dep_toD p.1
    show X.A.in1.units + 1 + (toD p.1).depth < cLine
    have : X.A.in1.units = X.A.units + 1 := rfl
    omega
  · have tot : PySem.W.TotalLe (PySem.W.dataLe false fun p : Tr × V => toD p.1) := PySem.W.sortLe_total _ _ _
    have le_eq : ∀ a b : Tr × V, PySem.W.dataLe false (fun p : Tr × V => toD p.1) a b = !PySem.W.dataLt (toD b.1) (toD a.1) := fun a b => by
      rw [PySem.W.dataLe_eq]; rfl
    rw [sort_merge tot] at eo
    have es : sortBy (fun a b => !PySem.W.dataLe false (fun p : Tr × V => toD p.1) b a) (xs.zip vs) = sortBy (fun a b : Tr × V => Py.ltT a.1 b.1) (xs.zip vs) := sort_congr' _ fun p hp q hq => by
      rw [le_eq, Bool.not_not]
      exact dataLt_toD _ _ (plainL_mem pl _ (mem p hp)) (plainL_mem pl _ (mem q hq)) (al _ (mem p hp) _ (mem q hq))
    rw [es] at eo
    have e1 : (sortBy (fun a b : Tr × V => Py.ltT a.1 b.1) (xs.zip vs)).map (·.1) = Py.sortT xs := by
      rw [sort_map (lt' := Py.ltT) (fun p : Tr × V => p.1) _ (fun _ _ _ _ => rfl), lp, sort_eq]
    have rr : RepL X.K H B c (Py.sortT xs) ((sortBy (fun a b : Tr × V => Py.ltT a.1 b.1) (xs.zip vs)).map (·.2)) := by
      rw [← e1]
      exact repL_pairs fun p hp => zip_rep la p ((sort_perm _ _).mem_iff.mp hp)
    obtain ⟨ep, he'⟩ := PyProof.Rows.sortedHeap_at (vs := its) (out := List.toArray out) hoL
    have hn : H h'.objs.size = none := I1.hok.fresh (Nat.le_refl _)
    have hlen : ((sortBy (fun a b : Tr × V => Py.ltT a.1 b.1) (xs.zip vs)).map (·.2)).length ≤ sizeLine := by
      rw [List.length_map, (sort_perm _ _).length_eq, List.length_zip, ll, Nat.min_self, lv]; exact hz
    refine ⟨.ref _, upd H h'.objs.size (.lst _), I1.laid (t' := tk) (fun b u e => ?_) (Nat.le_refl _) ⟨hlen, out, ep, vals_each eo, he'⟩, rfl, hq.newL hH hn rr⟩
    have hb : b < h'.objs.size := Heap.lt_size e
    rw [PyProof.Rows.sortedHeap_old (Nat.ne_of_lt hb) (by rw [size_push']; exact Nat.lt_succ_of_lt hb)]
    exact Heap.get?_push_of_some _ e
end

section
variable {X : L2.Cx} {c : Addr}
theorem sorted_dct {pins : List (Addr × Obj)} {σ : L2.St} {H : Hp} {s : Shared} {B : Bn} {Q : VK} {v : V} {u : Value} {kvs : List (Tr × Tr)} (hc : X.calm = true) (I : Inv X pins σ H s) (hH : Here B c H) (hu : Roomy X) (h1 : RepW X.K H B c (.dct kvs) v) (ru : RelV v u)
    (ok : Py.ordAll (kvs.map (·.1)) = true) (hq : AftF X.K B c H Q (.lst (Py.sortT (kvs.map (·.1))))) : wpAny (model X.prog X.w) X.A (call (.builtin "sorted") [u]) (EP X pins σ Q) X.xe s := by
  obtain ⟨a, vs, rfl, na, rv, hd⟩ := h1
  obtain rfl : u = Value.ref a := ru
  rcases hd with ⟨ks, l, e, rd⟩ | ⟨ks, l, e, rd⟩
  · obtain ⟨z, lo, vs', rel, dd⟩ := dk_rd I.hok rd.rd
    obtain ⟨ep, hat⟩ := dd.dictAt
    have el : (ks.zip vs).length = vs'.length := Paired.length rel
    have ek : ks.map kV = vs'.map fun p => kV p.1 := by
      have e := congrArg (List.map kV) rel.keys
      rw [zip_fst l, List.map_map] at e
      exact e
    refine sorted_col I hH hu (fun R f => PySem.W.kdu_collect (A := X.A.in1) (PySem.W.kdl_dict (knd := mixKind X.prog X.w) (kvs := vs') (ep := ep) lo) (I.ok.hd hc) hat (by rw [← el]; exact z) fun h' tk acc hk hacc => ?_) ok hq
    have hl : acc.toList.length = vs'.length := by rw [Array.length_toList]; exact hacc.1
    refine f h' tk acc.toList (ks.map kV) hk ?_ (by rw [e]; exact repL_keys ks) (by rw [hl, ← el]; exact z)
    rw [ek]
    exact keys_at hl fun j v e => hacc.2 j v (by rw [← Array.getElem?_toList]; exact e)
  · obtain ⟨z, hs, ms, pr, o, es, ep, ho, hx, hdt, he, hn⟩ := (show ObjOk X.prog X.w H s.heap a (.dT (ks.zip vs)) from rd.rd.ok I.hok)
    have l1 : es.size = ms.length := size_of_entries he
    have l2 : (ks.zip vs).length = ms.length := Paired.length pr
    obtain ⟨l3, h3⟩ := isKeys_at (isKeys_of pr)
    rw [zip_len l, List.length_map] at l3
    rw [zip_fst l] at h3
    refine sorted_col I hH hu (fun R f => PySem.W.kdu_collect (A := X.A.in1) (kdl_raw hs hx hdt) (I.ok.hd hc) ho (by omega) fun h' tk acc hk it => ?_) ok hq
    have hl : acc.toList.length = ms.length := by rw [Array.length_toList, it.1]; exact l1
    have ea : acc.toList = ms.map fun x => Value.ref x.2.1 := by
      apply List.ext_getElem?
      intro j
      rw [List.getElem?_map]
      cases hj : acc.toList[j]? with
      | none =>
        have h1 := List.getElem?_eq_none_iff.mp hj
        rw [List.getElem?_eq_none (by omega)]
        all_goals rfl
      | some v =>
        obtain ⟨en, hen, hv⟩ := it.2 j v (by rw [← Array.getElem?_toList]; exact hj)
        have qe := entry_at he j
        rw [hen] at qe
        cases hb : ms[j]? with
        | none =>
          rw [hb] at qe
          exact nomatch (show some en = none from qe)
        | some b =>
          rw [hb] at qe
          have e2 : en = entryOfKey (tupleKind (mixKind X.prog X.w)) b := Option.some.inj qe
          rw [hv, e2]
          all_goals rfl
    have eb : acc.toList = (ms.map fun x => x.2.1).map Value.ref := by rw [ea, List.map_map]; all_goals rfl
    refine f h' tk acc.toList ((ms.map fun x => x.2.1).map V.ref) hk (by rw [eb]; exact vals_refs _) ?_ (by omega)
    rw [e]
    exact repL_keysT hH (by rw [List.length_map]; omega) h3
end
section
variable {X : L2.Cx} {c : Addr}
theorem cb_sorted (hc : X.calm = true) (hu : Roomy X) : CallR X (.builtin "sorted") (rNF X.K c (Py.biM .sorted)) := by
  intro pins s σ H xs us Q I r ⟨B, ts, hH, hr, hw⟩
  match ts, hr, hw with
  | [], _, hw => exact False.elim hw
  | [t], hr, hw =>
    obtain ⟨v, rfl, h1⟩ := hr.one
    obtain ⟨u, rfl, ru⟩ := vals1 r
    cases t with
    | lst ys =>
      obtain ⟨a, vs, rfl, na, ha, la⟩ := wLst h1
      obtain rfl : u = Value.ref a := ru
      obtain ⟨ok, hq⟩ := wp_ifs (show WP (if Py.ordAll ys = true then .ret (.lst (Py.sortT ys)) else .stuck) (AftF X.K B c H Q) from hw)
      exact sorted_ok I hH hu ha la ok hq
    | tup ys =>
      obtain ⟨a, vs, rfl, na, ha, la⟩ := wTup h1
      obtain rfl : u = Value.ref a := ru
      obtain ⟨ok, hq⟩ := wp_ifs (show WP (if Py.ordAll ys = true then .ret (.lst (Py.sortT ys)) else .stuck) (AftF X.K B c H Q) from hw)
      obtain ⟨its, rv, ⟨o, ho, hcl, n, hd⟩, hz⟩ := I.tuple (SqT.of ha)
      have hl : its.length = vs.length := rv.length.symm
      exact sorted_col I hH hu (fun R f => wpAny_collect_seq (A := X.A.in1) a (T := "tuple") (.inr rfl) ho hcl hd (fun h' hk => by
        have := f h' s.toks its vs hk rv la (by rw [hl]; exact hz)
        simpa using this) (by rw [List.size_toArray, hl]; exact hz)) ok hq
    | dct kvs =>
      obtain ⟨ok, hq⟩ := wp_ifs (show WP (if Py.ordAll (kvs.map (·.1)) = true then .ret (.lst (Py.sortT (kvs.map (·.1)))) else .stuck) (AftF X.K B c H Q) from hw)
      exact sorted_dct hc I hH hu h1 ru ok hq
    | _ => exact False.elim hw
  | t :: t' :: ts, _, hw => exact False.elim (by cases t <;> exact hw)
theorem cb_tuple : CallR X (.type "tuple") (rNF X.K c (Py.biM .tuple)) := by
  intro pins s σ H xs us Q I r ⟨B, ts, hH, hr, hw⟩
  match ts, hr, hw with
  | [], _, hw => exact False.elim hw
  | [t], hr, hw =>
    obtain ⟨v, rfl, h1⟩ := hr.one
    obtain ⟨u, rfl, ru⟩ := vals1 r
    obtain ⟨ys, ht, hq⟩ := itemsS_wp (t := t) (show WP ((Py.itemsS t).bind fun xs => .ret (.tup xs)) (AftF X.K B c H Q) from hw)
    have hq : AftF X.K B c H Q (.tup ys) := hq
    rcases ht with rfl | rfl
    · obtain ⟨a, vs, rfl, na, ha, la⟩ := wLst h1
      exact rl_tuple pins s σ H _ u Q I ru (.inl ⟨a, vs, rfl, SqL.of ha, fun q hp => hq.newT hH hp la⟩)
    · obtain ⟨a, vs, rfl, na, ha, la⟩ := wTup h1
      exact rl_tuple pins s σ H _ u Q I ru (.inr ⟨a, vs, rfl, SqT.of ha, hq.same hH (show Rep X.K H B c _ _ by simp only [Rep]; exact ⟨a, vs, rfl, na, ha, la⟩)⟩)
  | t :: t' :: ts, _, hw => exact False.elim (by cases t <;> exact hw)
theorem cb_list (hc : X.calm = true) : CallR X (.type "list") (rNF X.K c (Py.biM .list)) := by
  intro pins s σ H xs us Q I r ⟨B, ts, hH, hr, hw⟩
  match ts, hr, hw with
  | [], _, hw => exact False.elim hw
  | [t], hr, hw =>
    obtain ⟨v, rfl, h1⟩ := hr.one
    rcases items_wp (t := t) (show WP ((Py.itemsM t).bind fun xs => .ret (.lst xs)) (AftF X.K B c H Q) from hw) with ⟨ys, ht, hq⟩ | ⟨kvs, rfl, hq⟩
    · have hq : AftF X.K B c H Q (.lst ys) := hq
      rcases ht with rfl | rfl
      · obtain ⟨a, vs, rfl, na, ha, la⟩ := wTup h1
        exact call_list_of pins s σ H _ us Q I r ⟨a, vs, rfl, .inr (SqT.of ha), fun l hp => hq.newL hH hp la⟩
      · obtain ⟨a, vs, rfl, na, ha, la⟩ := wLst h1
        exact call_list_of pins s σ H _ us Q I r ⟨a, vs, rfl, .inl (SqL.of ha), fun l hp => hq.newL hH hp la⟩
    · have hq : AftF X.K B c H Q (.lst (kvs.map (·.1))) := hq
      obtain ⟨a, vs, rfl, na, rv, hd⟩ := h1
      rcases hd with ⟨ks, l, e, rd⟩ | ⟨ks, l, e, rd⟩
      · refine call_listD hc pins s σ H _ us Q I r ⟨a, _, rfl, rd.rd, fun p hp => ?_⟩
        have e2 : ((ks.zip vs).map fun kv => kV kv.1) = ks.map kV := by
          have : ((ks.zip vs).map fun kv => kV kv.1) = ((ks.zip vs).map (·.1)).map kV := by rw [List.map_map]; rfl
          rw [this, zip_fst l]
        rw [e2]
        refine hq.newL hH hp ?_
        rw [e]
        exact repL_keys ks
      · refine call_list_dT hc pins s σ H _ us Q I r ⟨a, _, rfl, rd.rd, fun p bs hp hk => ?_⟩
        refine hq.newL hH hp ?_
        rw [e]
        obtain ⟨l2, h2⟩ := isKeys_at hk
        rw [zip_len l] at l2
        rw [zip_fst l] at h2
        exact repL_keysT hH (by omega) h2
  | t :: t' :: ts, _, hw => exact False.elim (by cases t <;> exact hw)
end
end Snd

set_option Elab.async false
set_option linter.all false
set_option maxRecDepth 100000
set_option maxHeartbeats 2000000
namespace Snd
open PySem PySem.Spec L2
open PyProof.Rows hiding St
section
variable {X : L2.Cx} {c : Addr}
theorem slIx_eq (n d : Nat) (o : Option Int) : Py.slIx n d o = HT.sIx n d o := by cases o <;> rfl
theorem cut_rep {K : PySem.W.Frag} {H : Hp} {B : Bn} {xs : List Tr} {vs : List V} (lo hi : Option Int) (l : RepL K H B c xs vs) : RepL K H B c (Py.cutT xs lo hi) (cutV vs lo hi) := by
  unfold Py.cutT cutV
  rw [slIx_eq, slIx_eq, l.length]
  exact (l.drop _).take _
def rSl (K : PySem.W.Frag) (c : Addr) : V → Option Int → Option Int → Hp → VK → Prop := fun x lo hi H Q => ∃ (B : Bn) (t : Tr), Here B c H ∧ RepW K H B c t x ∧ WP (Py.slcM t lo hi) (AftF K B c H Q)
theorem sl_T : SlR X (rSl X.K c) := by
  intro pins s σ H x v vl vu lo hi sl Q I rx hs pl pu ⟨B, t, hH, h1, hw⟩
  cases t with
  | tup xs =>
    obtain ⟨a, vs, rfl, na, ha, la⟩ := wTup h1
    have hq : AftF X.K B c H Q (.tup (Py.cutT xs lo hi)) := hw
    refine sl_tupA pins s σ H _ v vl vu lo hi sl Q I rx hs pl pu ⟨a, vs, rfl, SqT.of ha, fun e => ?_, fun _ p hp => hq.newT hH hp (cut_rep lo hi la)⟩
    have e2 : Py.cutT xs lo hi = xs := by
      unfold Py.cutT
      rw [slIx_eq, slIx_eq, la.length, e.1, e.2, List.drop_zero, Nat.sub_zero, ← la.length, List.take_length]
    rw [e2] at hq
    exact hq.same hH (show Rep X.K H B c _ _ by simp only [Rep]; exact ⟨a, vs, rfl, na, ha, la⟩)
  | lst xs =>
    obtain ⟨a, vs, rfl, na, ha, la⟩ := wLst h1
    have hq : AftF X.K B c H Q (.lst (Py.cutT xs lo hi)) := hw
    exact sl_list pins s σ H _ v vl vu lo hi sl Q I rx hs pl pu ⟨a, vs, rfl, SqL.of ha, fun p hp => hq.newL hH hp (cut_rep lo hi la)⟩
  | _ => exact False.elim hw
end
theorem places_rev (n : Nat) : Builtin.Slice.slicePlaces ((n : Int) - 1) (-1) (-1) = n := by
  unfold Builtin.Slice.slicePlaces
  rw [if_neg (by decide)]
  by_cases h : (n : Int) - 1 > -1
  · rw [if_pos h]
    have e : ((n : Int) - 1 - -1 - 1) / (- -1) + 1 = (n : Int) := by
      rw [show (- -1 : Int) = 1 by decide, Int.ediv_one]
      omega
    rw [e]; simp
  · rw [if_neg h]
    have : n = 0 := by omega
    subst this; rfl
theorem fm_congr {α β : Type} {f g : α → Option β} : ∀ {l : List α}, (∀ x ∈ l, f x = g x) → l.filterMap f = l.filterMap g
  | [], _ => rfl
  | x :: l, h => by
    rw [List.filterMap_cons, List.filterMap_cons, h x (by simp), fm_congr fun y hy => h y (by simp [hy])]
theorem pick_rev (xs : Array Value) : ((List.range xs.size).filterMap fun (m : Nat) => xs[(((xs.size : Nat) : Int) - 1 + (m : Int) * (-1)).toNat]?).toArray = xs.toList.reverse.toArray := by
  have e : (List.range xs.size).filterMap (fun (m : Nat) => xs[(((xs.size : Nat) : Int) - 1 + (m : Int) * (-1)).toNat]?) = ((List.range xs.size).map (fun k => xs.size - 1 - k)).filterMap (xs[·]?) := by
    rw [List.filterMap_map]
    refine fm_congr fun m hm => ?_
    have := List.mem_range.mp hm
    have e : (((xs.size : Nat) : Int) - 1 + (m : Int) * (-1)).toNat = xs.size - 1 - m := by omega
    rw [e]; rfl
  rw [e, PySem.W.krv_range, List.filterMap_reverse, PySem.W.krv_all]
theorem getItem_tuple_rev {prog : Program} {w : World} {A : Around} {E : Value → Shared → Prop} {s : Shared} {t sl : Addr} {items : Array Value} {vl vu vs : Value} {Q : Value → Shared → Prop} (ht : IsTup s.heap t items) (hs : s.heap.IsSliceOf sl vl vu vs) (pl : IsPart vl none) (pu : IsPart vu none) (ps : IsPart vs (some (-1)))
    (h : Q (.ref s.heap.objs.size) { s with heap := s.heap.push { cls := .type "tuple", data := .seq items.toList.reverse.toArray } })
    (hsz : items.size ≤ sizeLine) : wpAny (model prog w) A (getItem (.ref t) (.ref sl)) Q E s := by
  have htake : sizeOk (.seq items.toList.reverse.toArray) := by
    show items.toList.reverse.toArray.size ≤ sizeLine
    rw [List.size_toArray, List.length_reverse, Array.length_toList]
    exact hsz
  obtain ⟨os, hos, hcs, hds⟩ := id hs
  have hTs : s.TypeIs (.ref sl) "slice" := ⟨os, hos, hcs⟩
  unfold getItem
  try with_reducible refine wpAny_holding ?_
  first | refine wpAny_bind (wpAny_pure ?_) | skip
  refine wpAny_bind (wpAny_sequenceKey ht.typeIs (by decide) ?_)
  refine wpAny_bind (wpAny_callSpecial?_slot (name := Str.ofString "__getitem__") ht.typeIs PyProof.Rows.slot_tuple_getitem
    (wpAny_call_entry PyProof.Rows.slot_tuple_getitem ht.typeIs entry_tuple_getitem ?_ (args_tuple_getitem _ _)))
  show wpAny _ _ (Builtin.Tuple.tupleItemsOf (.ref t) >>= _) _ _ s
  refine wpAny_bind (tupleItemsOf_ ht ?_)
  refine wpAny_bind (wpAny_typeOf hTs ?_)
  rw [if_pos (by decide)]
  have key : ∀ {A : Around} {E : Value → Shared → Prop} {Q' : Int × Int × Nat → Shared → Prop}, Q' (((items.size : Nat) : Int) - 1, -1, items.size) s → wpAny (model prog w) A (Builtin.Slice.sliceApplied (.ref sl) (pure ((items.size : Nat) : Int))) Q' E s := by
    intro A E Q' hq
    unfold Builtin.Slice.sliceApplied Builtin.Slice.sliceFields
    refine wpAny_bind (wpAny_bind (wpAny_field hos hds (x := vl) rfl (wpAny_bind (wpAny_field hos hds (x := vu) rfl (wpAny_bind (wpAny_field hos hds (x := vs) rfl (wpAny_pure ?_)))))))
    refine wpAny_bind (HT.slicePart_ ps ?_)
    show wpAny _ _ (if ((-1 : Int) == 0) = true then _ else _) _ _ s
    rw [if_neg (by decide)]
    refine wpAny_bind (HT.slicePart_ pl (wpAny_bind (HT.slicePart_ pu (wpAny_bind (wpAny_pure ?_)))))
    show wpAny _ _ (pure (((items.size : Nat) : Int) - 1, (-1 : Int), Builtin.Slice.slicePlaces (((items.size : Nat) : Int) - 1) (-1) (-1))) _ _ s
    rw [places_rev]
    exact wpAny_pure hq
  refine wpAny_bind (key ?_)
  have hno : ¬ (((((items.size : Nat) : Int) - 1) == 0 && (-1 : Int) == 1 && items.size == items.size) = true) := by
    intro q
    rw [Bool.and_eq_true, Bool.and_eq_true] at q
    exact absurd (eq_of_beq q.1.2) (by decide)
  show wpAny _ _ (if ((((items.size : Nat) : Int) - 1) == 0 && (-1 : Int) == 1 && items.size == items.size) = true then _ else _) _ _ s
  rw [if_neg hno, pick_rev]
  first
    | exact wpAny_bind (m := Builtin.Tuple.tupleExact _) (wpAny_newObj_type (wpAny_pure ⟨_, rfl, wpAny_pure h⟩) htake)
    | exact wpAny_bind (m := Builtin.Tuple.tupleExact _) (wpAny_newObj_type (wpAny_bind (wpAny_pure (wpAny_pure ⟨_, rfl, wpAny_pure h⟩))) htake)
section
variable {X : L2.Cx} {c : Addr}
def tRev (K : PySem.W.Frag) (c : Addr) (te : TE) : TE := fun σ H Q => te σ H fun x H1 => ∃ (B : Bn) (t : Tr), Here B c H1 ∧ RepW K H1 B c t x ∧ WP (Py.revM t) (AftF K B c H1 Q)
theorem pe_rev {e : Expr} {te : TE} {k : Nat} {p1 p2 p3 pos : Pos} (he : PE X e te) : PE X (.Subscript e (.Slice none none (some (.UnaryOp .USub (.Constant (.int 1) k p1) p2)) p3) pos) (tRev X.K c te) := by
  refine ⟨fun pins s σ H Q I h => ?_⟩
  refine Subscript_ (thn (he.run pins s σ H _ I h) fun v s1 ⟨x, H1, I1, r1, B, t, hH, hr, hw⟩ => ?_)
  have hst : PO X (some (.UnaryOp .USub (.Constant (.int 1) k p1) p2)) (tPart (tUn (rU fun i => .int (-i)) (tC (.int 1)))) := po_some (pe_un un_neg pe_int)
  refine wpAny_Slice (thn (po_none.run pins s1 σ H1 (fun o H2 => o = none ∧ H2 = H1) I1 ⟨rfl, rfl⟩) fun vl s2 ⟨l, H2, I2, pl, el, e2⟩ => ?_)
  subst el e2
  refine thn (po_none.run pins s2 σ H2 (fun o H3 => o = none ∧ H3 = H2) I2 ⟨rfl, rfl⟩) fun vu s3 ⟨u, H3, I3, pu, eu, e3⟩ => ?_
  subst eu e3
  refine thn (hst.run pins s3 σ H3 (fun o H4 => o = some (-1) ∧ H4 = H3) I3 ⟨1, rfl, -1, rfl, rfl, rfl⟩) fun vs s4 ⟨o, H4, I4, ps, eo, e4⟩ => ?_
  subst eo e4
  have I5 : Inv X pins σ H4 { s4 with heap := s4.heap.push { cls := .type "slice", data := .fields #[vl, vu, vs] } } := I4.kept (t' := s4.toks) fun b ob q => Heap.get?_push_of_some _ q
  cases t with
  | lst xs =>
    obtain ⟨a, ws, rfl, na, ha, la⟩ := wLst hr
    obtain rfl : v = Value.ref a := r1
    have hq : AftF X.K B c H4 Q (.lst xs.reverse) := hw
    obtain ⟨its, r, ht, hz⟩ := I5.list (SqL.of ha)
    have hlen := r.length
    show wpAny (model X.prog X.w) X.A (subscriptTail e (.Slice none none (some (.UnaryOp .USub (.Constant (.int 1) k p1) p2)) p3) (.ref a) (.ref s4.heap.objs.size)) (EP X pins σ Q) X.xe { s4 with heap := s4.heap.push { cls := .type "slice", data := .fields #[vl, vu, vs] } }
    refine tail_any (ops := [.ref a, .ref s4.heap.objs.size]) ht.isList.typeIs (PySem.slot_list_getitem.lookup) ?_ (by with_unfolding_all rfl)
    refine wpAny_getItem_list_slice ht.isList (Heap.IsSliceOf.new _ vl vu vs) pl pu ps (by decide) ?_ (by rw [List.size_toArray]; omega)
    rw [PySem.W.krv_pick]
    refine ⟨.ref _, _, I5.laid (t' := s4.toks) (o := .lst ws.reverse) (fun b ob q => Heap.get?_push_of_some _ q) (Nat.le_refl _) ?_, rfl, hq.newL hH (I5.hok.fresh (Nat.le_refl _)) la.rev⟩
    exact ⟨by rw [List.length_reverse]; exact hz, _, 0, r.reverse, Heap.get?_push_size _ rfl⟩
  | tup xs =>
    obtain ⟨a, ws, rfl, na, ha, la⟩ := wTup hr
    obtain rfl : v = Value.ref a := r1
    have hq : AftF X.K B c H4 Q (.tup xs.reverse) := hw
    obtain ⟨its, r, ht, hz⟩ := I5.tuple (SqT.of ha)
    have hlen := r.length
    show wpAny (model X.prog X.w) X.A (subscriptTail e (.Slice none none (some (.UnaryOp .USub (.Constant (.int 1) k p1) p2)) p3) (.ref a) (.ref s4.heap.objs.size)) (EP X pins σ Q) X.xe { s4 with heap := s4.heap.push { cls := .type "slice", data := .fields #[vl, vu, vs] } }
    refine tail_any (ops := [.ref a, .ref s4.heap.objs.size]) ht.typeIs (PyProof.Rows.slot_tuple_getitem.lookup) ?_ (by with_unfolding_all rfl)
    refine getItem_tuple_rev ht (Heap.IsSliceOf.new _ vl vu vs) pl pu ps ?_ (by rw [List.size_toArray]; omega)
    have hw' : (its.toArray).toList.reverse.toArray = its.reverse.toArray := by simp
    rw [hw']
    refine ⟨.ref _, _, I5.laid (t' := s4.toks) (o := .tup ws.reverse) (fun b ob q => Heap.get?_push_of_some _ q) (Nat.le_refl _) ?_, rfl, hq.newT hH (I5.hok.fresh (Nat.le_refl _)) la.rev⟩
    exact ⟨by rw [List.length_reverse]; exact hz, _, r.reverse, IsTup.new _ _⟩
  | _ => exact False.elim hw
end
set_option maxHeartbeats 3200000
section
variable {P : Program} {w : World} {A : Around} {E : Value → Shared → Prop} {s : Shared}
/-- set(l) of a list of integers, with its places -/
theorem call_set_lstI {l : Addr} {items : Array Value} (ns : List Int) {Q : Value → Shared → Prop} (hh : A.handled = none) (hl : s.heap.IsList l items) (hit : IntsAre items.toList ns) (hb : ns.length + 1 < scanBound)
    (h : ∀ (h' : Heap) (tk c : Nat), SetR w h' s.heap.objs.size (fun j => decide (j ∈ ns)) c → c ≤ ns.length → (∀ b o, s.heap.get? b = some o → h'.get? b = some o) → Q (.ref s.heap.objs.size) { s with heap := h', toks := tk }) :
    wpAny (model P w) A (call (.type "set") [.ref l]) Q E s := by
  have hisz : items.size = ns.length := by
    have q := IntsAre.length hit
    rw [Array.length_toList] at q
    exact q
  obtain ⟨c, tl, hmro⟩ := F.called_set.mro
  have hmade := F.called_set.made
  have hsub := F.called_set.sub
  refine wpAny_call (codeAny_of_tree ?_)
  show wpAny _ _ (callAny (.type "set") _) _ _ _
  refine wpAny_pure ⟨Code.quiet_builtin _ (by decide +kernel), codeAny_builtin F.entry_type_call ?_⟩
  rw [Around.under_plain (weight_type_call_type "set" [.ref l] []) rfl]
  have h1 := F.called_set.notType
  have h2 := F.called_set.canCreate
  have hct := F.typeCall_set_1 (.ref l)
  repeat (any_goals (first | assumption | wp_step))
  refine codeAny_mono (code_set_led1 (.ref l) (E := E) (Q₁ := fun obj s₁ => obj = .ref s.heap.objs.size ∧ s₁ = { s with heap := s.heap.push { cls := .type "set", dict := none, data := .set #[] 0 (.fresh 0 0 (!w.params.followText "set-order")) } }) ⟨rfl, rfl⟩) fun r s₁ hr => ?_
  cases r with
  | error e => exact hr
  | ok fl =>
    cases fl with
    | ret obj =>
      obtain ⟨rfl, rfl⟩ := hr
      have hS : (s.heap.push { cls := .type "set", dict := none, data := .set #[] 0 (.fresh 0 0 (!w.params.followText "set-order")) }).get? s.heap.objs.size = some { cls := .type "set", dict := none, data := .set #[] 0 (.fresh 0 0 (!w.params.followText "set-order")) } := Heap.get?_push_size _ rfl
      have hT : Shared.TypeIs { s with heap := s.heap.push { cls := .type "set", dict := none, data := .set #[] 0 (.fresh 0 0 (!w.params.followText "set-order")) } } (.ref s.heap.objs.size) "set" := ⟨_, hS, rfl⟩
      have hli := F.called_set.init.lookup
      have hbi := F.called_set.init.bind (.ref s.heap.objs.size)
      repeat (any_goals (first | assumption | wp_step))
      refine codeAny_mono (codeAny_call_builtin (R := wants (fun r s₂ => r = .none ∧ ∃ h' tk c, s₂ = { s with heap := h', toks := tk } ∧ SetR w h' s.heap.objs.size (fun j => decide (j ∈ ns)) c ∧ c ≤ ns.length ∧
          (∀ b o, s.heap.get? b = some o → h'.get? b = some o)) E) F.called_set.init.plain F.entry_set_init (check_set_init_1 hT ?_)) fun r₂ s₂ hr₂ => ?_
      · obtain ⟨ol, hol, hcl, nl, hdl⟩ := hl
        obtain ⟨ocls, odict, odata, oslots⟩ := ol
        simp only at hcl hdl
        subst hcl; subst hdl
        have hol' : (s.heap.push { cls := .type "set", dict := none, data := .set #[] 0 (.fresh 0 0 (!w.params.followText "set-order")) }).get? l = some { cls := .type "list", dict := odict, data := .seq items nl, slots := oslots } := Heap.get?_push_of_some _ hol
        have hsls := F.sub_list_set
        have hslf := F.sub_list_frozenset
        have hne : (Value.type "list" == Value.type "dict") = false := by decide
        have hl1 : (s.heap.push { cls := .type "set", dict := none, data := .set #[] 0 (.fresh 0 0 (!w.params.followText "set-order")) }).IsList l items := ⟨_, hol', rfl, nl, rfl⟩
        unfold Builtin.«set.__init__» noKeywords Builtin.Frozenset.updateFrom
        generalize hPI : pyIter = PI
        wp_walk
        subst hPI
        refine wpAny_pyIter_list hl1 ?_
        refine wpAny_bind (wpAny_runValue ?_)
        have hlS : l < s.heap.objs.size := Heap.lt_size hol
        have hh3 : A.in1.in1.in1.handled = none := by simp [hh]
        have hneI : l ≠ (s.heap.push { cls := .type "set", dict := none, data := .set #[] 0 (.fresh 0 0 (!w.params.followText "set-order")) }).objs.size := by
          rw [Heap.size_push]; exact Nat.ne_of_lt (Nat.lt_succ_of_lt hlS)
        have hSf : s.heap.objs.size ∉ [(s.heap.push { cls := .type "set", dict := none, data := .set #[] 0 (.fresh 0 0 (!w.params.followText "set-order")) }).objs.size, l] := by
          rw [Heap.size_push]; simp only [List.mem_cons, List.mem_singleton, List.not_mem_nil, or_false, not_or]
          exact ⟨Nat.ne_of_lt (Nat.lt_succ_self _), Nat.ne_of_gt hlS⟩
        have hval : ∀ (i : Nat) (v : Value), items[i]? = some v → ∃ k t, ns[i]? = some k ∧ v = .int k t := fun i v hv => by
          have hi : i < ns.length := by rw [← hisz]; exact (Array.getElem?_eq_some_iff.mp hv).1
          obtain ⟨t, e⟩ := PyProof.Rows.IntsAre.int_at hit i v (by rw [Array.getElem?_toList]; exact hv)
          refine ⟨ns[i], t, List.getElem?_eq_getElem hi, ?_⟩
          rw [e, List.getD_eq_getElem?_getD, List.getElem?_eq_getElem hi] <;> rfl
        refine set_update_ints ((Walks.list hh3 _ l hneI items).toS) s.heap.objs.size
          hSf ns hisz hb hval (items.size - 0) 0 _ (by omega) (Nat.zero_le _)
          ⟨⟨_, Heap.get?_push_size _ rfl, rfl, rfl⟩, (hl1.push _)⟩ ?hS0 ?hR
        case hS0 =>
          have hget : ((s.heap.push { cls := .type "set", dict := none, data := .set #[] 0 (.fresh 0 0 (!w.params.followText "set-order")) }).push { cls := .type "list_iterator", data := .fields #[.ref l, .int 0 0] }).get? s.heap.objs.size
              = some { cls := .type "set", dict := none, data := .set #[] 0 (.fresh 0 0 (!w.params.followText "set-order")) } := Heap.get?_push_of_some _ hS
          exact ⟨0, Nat.le_refl 0, setR_new_at hget⟩
        case hR =>
          intro s' c' hm hc' hS'
          obtain ⟨h', g2, d', tk', os'⟩ := s'
          have eg : g2 = s.gens := hm.gens
          have ed : d' = s.drawn := hm.drawn
          have eo : os' = s.os := hm.os
          subst eg; subst ed; subst eo
          show wpAny _ _ _ _ _ _
          refine wpAny_pure ?_
          show wpAny _ _ (ret Value.none) _ _ _
          rw [hisz] at hc'
          refine wpAny_pure ⟨rfl, h', tk', c', rfl, hS', hc', fun b o e => ?_⟩
          have hb0 : b < s.heap.objs.size := Heap.lt_size e
          have hb1 : b ≠ s.heap.objs.size := Nat.ne_of_lt hb0
          have hb2 : b ≠ (s.heap.push { cls := .type "set", dict := none, data := .set #[] 0 (.fresh 0 0 (!w.params.followText "set-order")) }).objs.size := by
            rw [Heap.size_push]; exact Nat.ne_of_lt (Nat.lt_succ_of_lt hb0)
          exact hm.heap b o (by simp only [List.mem_cons, List.mem_singleton, List.not_mem_nil, or_false, not_or]; exact ⟨hb1, hb2⟩) (Heap.get?_push_of_some _ (Heap.get?_push_of_some _ e))
      · cases r₂ with
        | error e => exact hr₂
        | ok fl₂ =>
          cases fl₂ with
          | ret r =>
            obtain ⟨rfl, h', tk, c', rfl, hS', hc', hk'⟩ := hr₂
            repeat (any_goals (first | assumption | wp_step))
            exact h _ _ _ hS' hc' hk'
          | _ => exact hr₂.elim
    | _ => exact hr.elim
end

section
theorem insU_mem (x : Int) : ∀ (l : List Int) (y : Int), y ∈ Py.insU x l ↔ y = x ∨ y ∈ l
  | [], y => by simp [Py.insU]
  | z :: l, y => by
    unfold Py.insU
    split
    · simp
    · split
      · rename_i h; subst h; simp
      · rw [List.mem_cons, insU_mem x l y, List.mem_cons]
        constructor
        · rintro (h | h | h)
          · exact .inr (.inl h)
          · exact .inl h
          · exact .inr (.inr h)
        · rintro (h | h | h)
          · exact .inr (.inl h)
          · exact .inl h
          · exact .inr (.inr h)
theorem insU_up (x : Int) : ∀ l : List Int, l.Pairwise (· < ·) → (Py.insU x l).Pairwise (· < ·)
  | [], _ => by simp [Py.insU]
  | z :: l, h => by
    obtain ⟨h1, h2⟩ := List.pairwise_cons.mp h
    unfold Py.insU
    split
    · rename_i g
      refine List.pairwise_cons.mpr ⟨fun y hy => ?_, h⟩
      rcases List.mem_cons.mp hy with rfl | hy
      · exact g
      · have := h1 y hy; omega
    · split
      · exact h
      · refine List.pairwise_cons.mpr ⟨fun y hy => ?_, insU_up x l h2⟩
        rcases (insU_mem x l y).mp hy with rfl | hy
        · omega
        · exact h1 y hy
theorem sortU_mem : ∀ (l : List Int) (y : Int), y ∈ Py.sortU l ↔ y ∈ l
  | [], _ => Iff.rfl
  | x :: l, y => by
    show y ∈ Py.insU x (Py.sortU l) ↔ _
    rw [insU_mem, sortU_mem l y, List.mem_cons]
theorem sortU_up : ∀ l : List Int, (Py.sortU l).Pairwise (· < ·)
  | [] => List.Pairwise.nil
  | x :: l => insU_up x _ (sortU_up l)
theorem up_nodup : ∀ {l : List Int}, l.Pairwise (· < ·) → l.Nodup
  | [], _ => List.Pairwise.nil
  | x :: l, h => by
    obtain ⟨h1, h2⟩ := List.pairwise_cons.mp h
    exact List.nodup_cons.mpr ⟨fun z => by have := h1 x z; omega, up_nodup h2⟩
theorem up_eq : ∀ {a b : List Int}, a.Pairwise (· < ·) → b.Pairwise (· < ·) → (∀ k, k ∈ a ↔ k ∈ b) → a = b
  | [], [], _, _, _ => rfl
  | [], y :: b, _, _, h => by have := (h y).mpr (.head _); cases this
  | x :: a, [], _, _, h => by have := (h x).mp (.head _); cases this
  | x :: a, y :: b, ha, hb, h => by
    obtain ⟨a1, a2⟩ := List.pairwise_cons.mp ha
    obtain ⟨b1, b2⟩ := List.pairwise_cons.mp hb
    have e : x = y := by
      rcases List.mem_cons.mp ((h x).mp (.head _)) with z | z
      · exact z
      · rcases List.mem_cons.mp ((h y).mpr (.head _)) with w | w
        · exact w.symm
        · have := a1 y w; have := b1 x z; omega
    subst e
    rw [up_eq a2 b2 fun k => ⟨fun hk => ?_, fun hk => ?_⟩]
    · rcases List.mem_cons.mp ((h k).mp (.tail _ hk)) with z | z
      · have := a1 k hk; omega
      · exact z
    · rcases List.mem_cons.mp ((h k).mpr (.tail _ hk)) with z | z
      · have := b1 k hk; omega
      · exact z
theorem set_card {w : World} {h : Heap} {a : Addr} {zs : List Int} {n : Nat} (R : SetR w h a (fun j => decide (j ∈ zs)) n) : n = (Py.sortU zs).length := by
  obtain ⟨o, es, ep, t, ho, hex, hd, g, nd, hm, hb, hf, hn, hr, hl⟩ := R
  have p : (es.toList.map keyOf).Perm (Py.sortU zs) := (List.perm_ext_iff_of_nodup nd (up_nodup (sortU_up zs))).mpr fun k => by
    rw [sortU_mem]
    have := hm k
    rw [← this, decide_eq_true_eq]
  rw [← p.length_eq, List.length_map, Array.length_toList]
  exact hn.symm
variable {X : L2.Cx} {c : Addr}
def rSetS (w : World) (K : PySem.W.Frag) : List V → Hp → VK → Prop := fun xs H Q => ∃ (l : Addr) (zs : List Int), xs = [V.ref l] ∧ SqL K H l (zs.map V.int) ∧ zs.length ≤ 1000 ∧ ∀ p, H p = none → Q (.ref p) (upd H p (SetO w p (fun j => decide (j ∈ zs)) (Py.sortU zs).length))
theorem cr_setL (hc : X.calm = true) : CallR X (.type "set") (rSetS X.w X.K) := by
  intro pins s σ H xs us Q I r h
  obtain ⟨l, zs, rfl, hq, hl, q⟩ := h
  rw [Vals.ref1 r]
  obtain ⟨its, rv, p', hz⟩ := I.list hq
  refine call_set_lstI zs (I.ok.hd hc) p'.isList (by simpa using RZ.intsAre_vals rv) (by unfold scanBound; omega) fun h' tk c R hc' hk => ?_
  have e := set_card R
  subst e
  exact ⟨.ref _, upd H s.heap.objs.size (SetO X.w s.heap.objs.size (fun j => decide (j ∈ zs)) (Py.sortU zs).length), I.laid (t' := tk) hk (Nat.le_refl _) (setO_new R), rfl, q _ (I.hok.fresh (Nat.le_refl _))⟩
theorem allI_of : ∀ {xs : List Tr} {zs : List Int}, Py.allI xs = some zs → xs = zs.map Py.T.int
  | [], zs, h => by cases h; rfl
  | .int i :: r, zs, h => by
    have h : (Py.allI r).map (i :: ·) = some zs := h
    cases e : Py.allI r with
    | none => rw [e] at h; cases h
    | some ys =>
      rw [e] at h
      cases h
      rw [allI_of e]; rfl
  | .non :: _, _, h => by cases h
  | .bl _ :: _, _, h => by cases h
  | .str _ :: _, _, h => by cases h
  | .tup _ :: _, _, h => by cases h
  | .lst _ :: _, _, h => by cases h
  | .dct _ :: _, _, h => by cases h
  | .set _ :: _, _, h => by cases h
  | .cup :: _, _, h => by cases h
theorem repL_ints {K : PySem.W.Frag} {H : Hp} {B : Bn} : ∀ (zs : List Int), RepL K H B c (zs.map Py.T.int) (zs.map V.int)
  | [] => RepL.nil
  | z :: zs => .cons (by simp only [Rep]) (repL_ints zs)
theorem repL_ints_inv {K : PySem.W.Frag} {H : Hp} {B : Bn} : ∀ {zs : List Int} {vs : List V}, RepL K H B c (zs.map Py.T.int) vs → vs = zs.map V.int
  | [], _, r => r.inv_nil
  | z :: zs, vs, r => by
    obtain ⟨v, w, rfl, h1, h2⟩ := r.inv_cons
    rw [repL_ints_inv h2]
    have : v = .int z := by simpa only [Rep] using h1
    rw [this]; rfl
/-- sorted(set(a)) -/
def tSS (K : PySem.W.Frag) (c : Addr) (ta : TE) : TE := fun σ H Q => ta σ H fun x H1 => ∃ (B : Bn) (xs : List Tr) (zs : List Int), Here B c H1 ∧ RepW K H1 B c (.lst xs) x ∧ Py.allI xs = some zs ∧ zs.length ≤ 1000 ∧ (Py.sortU zs).length < 64 ∧ ∀ H2, Ext c H1 H2 → CupOk H2 c → AftF K B c H2 Q (.lst ((Py.sortU zs).map .int))
theorem pe_sset {a : Expr} {ta : TE} {p1 p2 p3 p4 : Pos} (hc : X.calm = true) (hg : Gl X "sorted") (hm : X.mg "sorted" = none) (hg2 : Gl X "set") (hm2 : X.mg "set" = none) (ha : PE X a ta) (na : starEach [a] X.env = (false, eval a X.env) :: starEach [] X.env) :
    PE X (.Call (.Name "sorted" p1) [.Call (.Name "set" p2) [a] [] p3] [] p4) (tSS X.K c ta) := by
  refine ⟨fun pins s σ H Q I h => ?_⟩
  refine Call_ (ld_blt I hg hm (show bootBuiltins "sorted" = some (.builtin "sorted") from rfl) ?_)
  refine PyProof.Rows.callWith_builtin1 (PyProof.Rows.args_cons ?_ rfl) rfl rfl
  refine Call_ (ld_blt I hg2 hm2 boot_set ?_)
  refine PyProof.Rows.callWith_type1 (PyProof.Rows.args_cons (thn (ha.run pins s σ H _ I h) fun v s1 ⟨x, H1, I1, r1, q1⟩ => PyProof.Rows.args_nil ?_) na) na rfl
  obtain ⟨B, xs, zs, hH, r, al, l1, l2, q⟩ := q1
  obtain rfl := allI_of al
  obtain ⟨l, vs, rfl, nl, hl, lr⟩ := wLst r
  obtain rfl := repL_ints_inv lr
  refine thn (cr_setL hc pins s1 σ H1 [.ref l] [v] (fun y H2 => ∃ p, y = .ref p ∧ H1 p = none ∧ H2 = upd H1 p (SetO X.w p (fun j => decide (j ∈ zs)) (Py.sortU zs).length)) I1 (.cons r1 .nil) ⟨l, zs, rfl, SqL.of hl, l1, fun p hp => ⟨p, rfl, hp, rfl⟩⟩) fun v2 s2 ⟨y, H2, I2, r2, p, ey, hp, eH⟩ => PyProof.Rows.args_nil ?_
  subst ey; subst eH
  have x2 : Ext c H1 (upd H1 p (SetO X.w p (fun j => decide (j ∈ zs)) (Py.sortU zs).length)) := Ext.new hp
  have k2 : CupOk (upd H1 p (SetO X.w p (fun j => decide (j ∈ zs)) (Py.sortU zs).length)) c := hH.new hp
  refine cr_sortedSet hc pins s2 σ _ [.ref p] [v2] Q I2 (.cons r2 .nil) ⟨p, _, _, rfl, upd_same, l2, fun ns p' hs hm hlen hp' => ?_⟩
  have e : ns = Py.sortU zs := up_eq hs (sortU_up zs) fun k => by rw [hm k, decide_eq_true_eq, sortU_mem]
  subst e
  exact (q _ x2 k2).newL (hH.ext x2 k2) hp' (repL_ints _)
end

section
variable {X : L2.Cx} {c : Addr}
/-- len(set(a)) -/
def tSN (K : PySem.W.Frag) (c : Addr) (ta : TE) : TE := fun σ H Q => ta σ H fun x H1 => ∃ (B : Bn) (t : Tr) (xs : List Tr) (zs : List Int), RepW K H1 B c t x ∧ (t = .lst xs ∨ t = .tup xs) ∧ Py.allI xs = some zs ∧ zs.length ≤ 1000 ∧ Q (.int ((Py.sortU zs).length : Nat)) H1
theorem pe_slen {a : Expr} {ta : TE} {p1 p2 p3 p4 : Pos} (hc : X.calm = true) (hg : Gl X "len") (hm : X.mg "len" = none) (hg2 : Gl X "set") (hm2 : X.mg "set" = none) (ha : PE X a ta) (na : starEach [a] X.env = (false, eval a X.env) :: starEach [] X.env) :
    PE X (.Call (.Name "len" p1) [.Call (.Name "set" p2) [a] [] p3] [] p4) (tSN X.K c ta) := by
  refine ⟨fun pins s σ H Q I h => ?_⟩
  refine Call_ (ld_blt I hg hm PySem.boot_len ?_)
  refine PyProof.Rows.callWith_builtin1 (PyProof.Rows.args_cons ?_ rfl) rfl rfl
  refine Call_ (ld_blt I hg2 hm2 boot_set ?_)
  refine PyProof.Rows.callWith_type1 (PyProof.Rows.args_cons (thn (ha.run pins s σ H _ I h) fun v s1 ⟨x, H1, I1, r1, q1⟩ => PyProof.Rows.args_nil ?_) na) na rfl
  obtain ⟨B, t, xs, zs, r, ht, al, l1, q⟩ := q1
  obtain rfl := allI_of al
  rcases ht with rfl | rfl
  · obtain ⟨l, vs, rfl, nl, hl, lr⟩ := wLst r
    obtain rfl := repL_ints_inv lr
    cases r1
    obtain ⟨its, rv, p', hz⟩ := I1.list (SqL.of hl)
    refine call_set_lstI zs (I1.ok.hd hc) p'.isList (by simpa using RZ.intsAre_vals rv) (by unfold scanBound; omega) fun h' tk n R hn hk => ?_
    have en := set_card R
    subst en
    refine PyProof.Rows.args_nil ?_
    obtain ⟨o, es, ep, t, ho, hex, hd, g, nd, hm', hb', hf, hn', hr, hl'⟩ := R
    have I2 : Inv X pins σ H1 { s1 with heap := h', toks := tk } := I1.kept hk
    exact call_len_set ho hex hd hf (by rw [hn']; omega) ⟨.int ((Py.sortU zs).length : Nat), H1, I2.tok _, ⟨_, by rw [hn']⟩, q⟩
  · obtain ⟨l, vs, rfl, nl, hl, lr⟩ := wTup r
    obtain rfl := repL_ints_inv lr
    cases r1
    obtain ⟨its, rv, p', hz⟩ := I1.tuple (SqT.of hl)
    refine call_set_tupI zs (I1.ok.hd hc) p' (by simpa using RZ.intsAre_vals rv) (by unfold scanBound; omega) fun h' tk n R hn hk => ?_
    have en := set_card R
    subst en
    refine PyProof.Rows.args_nil ?_
    obtain ⟨o, es, ep, t, ho, hex, hd, g, nd, hm', hb', hf, hn', hr, hl'⟩ := R
    have I2 : Inv X pins σ H1 { s1 with heap := h', toks := tk } := I1.kept hk
    exact call_len_set ho hex hd hf (by rw [hn']; omega) ⟨.int ((Py.sortU zs).length : Nat), H1, I2.tok _, ⟨_, by rw [hn']⟩, q⟩
/-- tuple(range(a, b, -1)) -/
def rdV (a b : Int) : List V := (List.range (a - b).toNat).map fun i => V.int (a - (i : Nat))
theorem vals_rd {a b : Int} {acc : Array Value} (h : ItemsOf (fun i v => ∃ t, v = .int (a + i * (-1)) t) acc (a - b).toNat) : Vals (rdV a b) acc.toList := by
  have e : acc.toList.length = (a - b).toNat := by rw [Array.length_toList]; exact h.1
  unfold rdV
  rw [← e]
  refine vals_of_get acc.toList _ fun j u hj => ?_
  obtain ⟨t, rfl⟩ := h.2 j u (by rw [← hj, Array.getElem?_toList])
  exact ⟨t, by congr 1; omega⟩
def tRd (ta : TA) : TE := fun σ H Q => ta σ H fun vs H1 => ∃ i j : Int, vs = [.int i, .int j, .int (-1)] ∧ -(2 ^ 62) ≤ i ∧ i < 2 ^ 62 ∧ -(2 ^ 62) ≤ j ∧ j < 2 ^ 62 ∧ (i - j).toNat ≤ 2 ^ 24 ∧ ∀ q, H1 q = none → Q (.ref q) (upd H1 q (.tup (rdV i j)))
theorem pe_rngd {a b d : Expr} {ta : TA} {p1 p2 p3 p4 : Pos} (hc : X.calm = true) (hg : Gl X "tuple") (hm : X.mg "tuple" = none) (hg2 : Gl X "range") (hm2 : X.mg "range" = none) (ha : PA X [a, b, d] ta)
    (hs : starEach [a, b, d] X.env = (false, eval a X.env) :: starEach [b, d] X.env) (hpl : (backTo p3 (starEach [b, d] X.env)).any (·.1) = false) :
    PE X (.Call (.Name "tuple" p1) [.Call (.Name "range" p2) [a, b, d] [] p3] [] p4) (tRd ta) := by
  refine ⟨fun pins s σ H Q I h => ?_⟩
  refine Call_ (ld_blt I hg hm boot_tuple ?_)
  refine PyProof.Rows.callWith_type1 (PyProof.Rows.args_cons ?_ rfl) rfl rfl
  refine Call_ (ld_blt I hg2 hm2 boot_range (PyProof.Rows.callWith_type1 (thn (ha.run p3 pins s σ H _ I h) fun us s1 ⟨vs, H1, I1, r1, q1⟩ => ?_) hs hpl))
  obtain ⟨i, j, e, b1, b2, b3, b4, b5, q⟩ := q1
  subst e
  cases r1 with
  | cons r rr =>
    cases rr with
    | cons r' rr =>
      cases rr with
      | cons r'' rr =>
        cases rr
        obtain ⟨t, rfl⟩ := r
        obtain ⟨t', rfl⟩ := r'
        obtain ⟨t'', rfl⟩ := r''
        refine call_range_3 (by decide) ?_ (.inl (PyProof.noPylong_small (by decide)))
        refine PyProof.Rows.args_nil ?_
        have I2 : Inv X pins σ H1 { s1 with heap := s1.heap.push { cls := .type "range", data := .fields #[.int i t, .int j t', .int (-1) t''] } } := I1.kept (t' := s1.toks) fun b o e => Heap.get?_push_of_some _ e
        refine call_tuple_range (n := (i - j).toNat) (I2.ok.hd hc) (IsRange.new ..) (PySem.W.small_down b1 b2 b3 b4) (PySem.W.rangeSize_downNat i j) b5 fun h' tk acc hk hi => ?_
        have I3 : Inv X pins σ H1 { s1 with heap := h', toks := tk } := I2.kept hk
        refine ⟨.ref h'.objs.size, upd H1 h'.objs.size (.tup (rdV i j)), I3.laid (t' := tk) (fun c o e => Heap.get?_push_of_some _ e) (Nat.le_refl _) (show ObjOk X.prog X.w _ _ _ (.tup (rdV i j)) from ⟨?_, acc.toList, vals_rd hi, ?_⟩), rfl, q _ (I3.hok.fresh (Nat.le_refl _))⟩
        · rw [show (rdV i j).length = (i - j).toNat by unfold rdV; rw [List.length_map, List.length_range], sizeLine_eq]; omega
        · rw [Array.toArray_toList]; exact IsTup.new _ _
theorem firstI_spec : ∀ {zs : List Int} {k : Int} {n : Nat}, Py.firstI k zs = some n → zs[n]? = some k ∧ ∀ m z, m < n → zs[m]? = some z → z ≠ k
  | [], k, n, h => by cases h
  | y :: r, k, n, h => by
    unfold Py.firstI at h
    by_cases e : y = k
    · rw [if_pos e] at h
      cases h
      exact ⟨by rw [e]; rfl, fun m z hm => by omega⟩
    · rw [if_neg e] at h
      cases q : Py.firstI k r with
      | none => rw [q] at h; cases h
      | some n' =>
        rw [q] at h
        cases h
        obtain ⟨h1, h2⟩ := firstI_spec q
        refine ⟨by simpa using h1, fun m z hm hz => ?_⟩
        match m, hz with
        | 0, hz => simp at hz; rw [← hz]; exact e
        | m + 1, hz => exact h2 m z (by have : m + 1 < n' + 1 := hm; omega) (by simpa using hz)
end
end Snd

set_option Elab.async false
set_option linter.all false
set_option maxRecDepth 100000
set_option maxHeartbeats 2000000
namespace Snd
open PySem PySem.Spec L2
open PyProof.Rows hiding St

structure Gx where
  N : List Str
  defs : Nat → Option Str
  roll : Str
  consts : Str → Option Int
  free : Str → Bool

/-- the slots hold the trees; those that es names hold them wholly -/
structure Ev (K : PySem.W.Frag) (c : Addr) (es : Nat → Bool) (B : Bn) (σ : L2.St) (H : Hp) (env : Py.Env) : Prop where
  get : ∀ i t, env[i]? = some (some t) → ∃ v, σ[i]? = some (some v) ∧ RepW K H B c t v ∧ (es i = true → Rep K H B c t v)
  len : env.length = σ.length
section
variable {K : PySem.W.Frag} {c : Addr} {es es' : Nat → Bool} {B : Bn} {σ : L2.St} {H H' : Hp} {env : Py.Env}
theorem Ev.mono (h : Ev K c es B σ H env) (m : ∀ i, es' i = true → es i = true) : Ev K c es' B σ H env := ⟨fun i t e => by
  obtain ⟨v, h1, h2, h3⟩ := h.get i t e
  exact ⟨v, h1, h2, fun q => h3 (m i q)⟩, h.len⟩
theorem Ev.ext (h : Ev K c es B σ H env) (x : Ext c H H') : Ev K c es B σ H' env := ⟨fun i t e => by
  obtain ⟨v, h1, h2, h3⟩ := h.get i t e
  exact ⟨v, h1, h2.ext x, fun q => (h3 q).ext x⟩, h.len⟩
theorem Ev.free (h : Ev K c es B σ H env) : Ev K c es' B0 σ H env := ⟨fun i t e => by
  obtain ⟨v, h1, h2, h3⟩ := h.get i t e
  exact ⟨v, h1, h2.free.weak, fun _ => h2.free⟩, h.len⟩
end
inductive Md where
  | w | s | f
  deriving DecidableEq
def Res (m : Md) (K : PySem.W.Frag) (H H' : Hp) (B : Bn) (c : Addr) (t : Tr) (v : V) : Prop :=
  match m with
  | .w => RepW K H' B c t v
  | .s => Rep K H' B c t v
  | .f => Fresh K H H' B c t v
/-- what follows a tree, in the mode m; from H on -/
def Post (m : Md) (K : PySem.W.Frag) (B : Bn) (c : Addr) (H : Hp) (Q : VK) (t : Tr) : Prop := ∀ v H', Ext c H H' → CupOk H' c → Res m K H H' B c t v → Q v H'
section
variable {K : PySem.W.Frag} {c : Addr} {B : Bn} {H H1 H2 H' : Hp} {Q : VK} {t : Tr} {v : V} {m : Md}
theorem Ext.none (x : Ext c H H1) (k : CupOk H1 c) {a : Addr} (h : H1 a = none) : H a = none := by
  cases q : H a with
  | none => rfl
  | some o =>
    by_cases e : a = c
    · subst e; exact absurd h k.some
    · rw [x a o q e] at h; cases h
theorem Fresh.back (x : Ext c H H1) (k : CupOk H1 c) (r : Fresh K H1 H' B c t v) : Fresh K H H' B c t v := by
  cases t with
  | lst xs =>
    obtain ⟨a, vs, e, n, s, l⟩ := r
    exact ⟨a, vs, e, x.none k n, s, l⟩
  | dct kvs =>
    obtain ⟨a, vs, e, n, l, s⟩ := r
    exact ⟨a, vs, e, x.none k n, l, s⟩
  | _ => exact r
/-- something new, come to behind H1, serves every mode at H -/
theorem Fresh.res (hH : Here B c H) (x : Ext c H H1) (k : CupOk H1 c) (r : Fresh K H1 H' B c t v) : Res m K H H' B c t v := by
  have r0 := r.back x k
  cases m with
  | w => exact (r0.rep hH).weak
  | s => exact r0.rep hH
  | f => exact r0
theorem Post.toF (p : Post m K B c H Q t) (hH : Here B c H) (x : Ext c H H1) (k : CupOk H1 c) : AftF K B c H1 Q t := fun v H' y k' r => p v H' (x.trans y) k' (r.res hH x k)
theorem Post.toS (p : Post m K B c H Q t) (hm : m ≠ .f) (x : Ext c H H1) : Aft K B c H1 Q t := fun v H' y k' r => p v H' (x.trans y) k' (by
  cases m with
  | w => exact r.weak
  | s => exact r
  | f => exact absurd rfl hm)
/-- a scalar is new in every mode -/
theorem Post.scal (p : Post m K B c H Q t) (x : Ext c H H1) (k : CupOk H1 c) (r : ∀ B, Rep K H1 B c t v) (hs : ∀ H0 B, Fresh K H0 H1 B c t v) : Q v H1 := p v H1 x k (by
  cases m with
  | w => exact (r B).weak
  | s => exact r B
  | f => exact hs H B)
end
theorem PE.imp {X : L2.Cx} {e : Expr} {t t' : TE} (h : PE X e t) (i : ∀ σ H Q, t' σ H Q → t σ H Q) : PE X e t' := ⟨fun pins s σ H Q I hw => h.run pins s σ H Q I (i σ H Q hw)⟩
theorem PT.imp {X : L2.Cx} {e : Expr} {t t' : TT} (h : PT X e t) (i : ∀ σ H Q, t' σ H Q → t σ H Q) : PT X e t' := ⟨fun pins s σ H Q I hw => h.run pins s σ H Q I (i σ H Q hw)⟩
theorem PW.imp {X : L2.Cx} {e : Expr} {t t' : TT} (h : PW X e t) (i : ∀ σ H Q, t' σ H Q → t σ H Q) : PW X e t' := ⟨fun wh pins s σ H Q I hw => h.run wh pins s σ H Q I (i σ H Q hw)⟩
theorem PA.imp {X : L2.Cx} {es : List Expr} {t t' : TA} (h : PA X es t) (i : ∀ σ H Q, t' σ H Q → t σ H Q) : PA X es t' := ⟨fun pos pins s σ H Q I hw => h.run pos pins s σ H Q I (i σ H Q hw)⟩

/-- what must hold so that e gives a tree in the mode m of which Q holds -/
def esc : Bool → Py.E → Nat → Bool
  | w, .var j, i => !w && i == j
  | w, .cons a r, i => esc w a i || esc w r i
  | _, .tup es, i => esc false es i
  | _, .lst es, i => esc false es i
  | _, .dcons _ v r, i => esc false v i || esc false r i
  | _, .bin _ a b, i => esc true a i || esc true b i
  | w, .ite _ a b, i => esc w a i || esc w b i
  | _, .call _ es, i => esc false es i
  | _, .bi b es, i => (match b with
    | .len | .abs | .int | .str | .sum | .all | .any | .isint | .isbool | .istup | .isstr | .islst => false
    | _ => esc true es i)
  | _, .get1 d _, i => esc true d i
  | _, .get2 d _ x, i => esc true d i || esc false x i
  | w, .zip2 a b, i => esc w a i || esc w b i
  | w, .enum a, i => esc w a i
  | _, .idx a _, i => esc true a i
  | _, .slc a _ _, i => esc true a i
  | _, .rev a, i => esc true a i
  | _, .sset a, i => esc true a i
  | _, .lc _ it _ own el, i => esc true it i || (esc false el i && !own.contains i)
  | _, .lc2 _ it _ _ _ it1 _ own el, i => esc true it i || ((esc false it1 i || esc false el i) && !own.contains i)
  | _, .dc _ it _ own _ v, i => esc true it i || (esc false v i && !own.contains i)
  | _, _, _ => false
/-- what it gives is new, or no list and no dict -/
def fresh : Py.E → Bool
  | .con _ => true
  | .tup _ => true
  | .lst _ => true
  | .dnil => true
  | .dcons _ _ _ => true
  | .bin _ _ _ => true
  | .neg _ => true
  | .not _ => true
  | .and _ _ => true
  | .or _ _ => true
  | .cmp _ _ _ => true
  | .chain _ _ _ _ _ => true
  | .ite _ a b => fresh a && fresh b
  | .roll _ _ => true
  | .bi b _ => (match b with
    | .min | .max | .min2 | .max2 => false
    | _ => true)
  | .index _ _ => true
  | .count _ _ => true
  | .rngs _ _ => true
  | .rng1 _ => true
  | .rng2 _ _ => true
  | .slc _ _ _ => true
  | .rev _ => true
  | .sset _ => true
  | .slen _ => true
  | .rngd _ _ => true
  | .lc _ _ _ _ _ => true
  | .lc2 _ _ _ _ _ _ _ _ _ => true
  | .dc _ _ _ _ _ _ => true
  | _ => false
def isW : Md → Bool
  | .w => true
  | _ => false
section
variable (C : Py.Cx) (K : PySem.W.Frag) (c : Addr)
def tE (m : Md) (e : Py.E) : TE := fun σ H Q => ∃ (B : Bn) (env : Py.Env), Here B c H ∧ Ev K c (esc (isW m) e) B σ H env ∧ WP (Py.den C e env) (Post m K B c H Q)
/-- .. as a test: nothing escapes -/
def tT (e : Py.E) : TT := fun σ H Q => ∃ (env : Py.Env), Here B0 c H ∧ Ev K c (fun _ => true) B0 σ H env ∧ WP ((Py.den C e env).bind Py.asB) (fun b => ∀ H', Ext c H H' → CupOk H' c → Q b H')
/-- a list of arguments -/
def tA (w : Bool) (e : Py.E) : TA := fun σ H Q => ∃ (B : Bn) (env : Py.Env), Here B c H ∧ Ev K c (esc w e) B σ H env ∧ WP ((Py.den C e env).bind Py.argsOf) (fun ts => ∀ vs H', Ext c H H' → CupOk H' c → (if w then RepWs K H' B c ts vs else RepL K H' B c ts vs) → Q vs H')
end
theorem wp_and {α β : Type} {m : Py.M α} {f : α → Py.M β} {Q : β → Prop} : WP (m.bind f) Q ↔ WP m fun a => WP (f a) Q := Py.wp_bind
theorem WP.mono {α : Type} {m : Py.M α} {Q Q' : α → Prop} (h : WP m Q) (i : ∀ a, Q a → Q' a) : WP m Q' := Py.wp_mono h (fun _ z => z) i
theorem asB_wp {t : Tr} {Q : Bool → Prop} (h : WP (Py.asB t) Q) : ∃ b, t = .bl b ∧ Q b := by
  cases t with
  | bl b => exact ⟨b, rfl, h⟩
  | _ => exact False.elim h
theorem asI_wp {t : Tr} {Q : Int → Prop} (h : WP (Py.asI t) Q) : ∃ b, t = .int b ∧ Q b := by
  cases t with
  | int b => exact ⟨b, rfl, h⟩
  | _ => exact False.elim h
theorem argsOf_wp {t : Tr} {Q : List Tr → Prop} (h : WP (Py.argsOf t) Q) : ∃ b, t = .tup b ∧ Q b := by
  cases t with
  | tup b => exact ⟨b, rfl, h⟩
  | _ => exact False.elim h

structure Good (P : Program) (w : World) (K : PySem.W.Frag) (mg : Str → Option Value) (base : Heap) (g : Gx) (lv : Nat) (X : L2.Cx) (sc : Scope) : Prop where
  prog : X.prog = P
  wd : X.w = w
  K : X.K = K
  mg : X.mg = mg
  base : X.base = base
  sc : X.env.scope = sc
  N : X.N = g.N
  nd : g.N.Nodup
  calm : X.calm = true
  room : Room lv X.A
theorem Good.nd' {P : Program} {w : World} {K : PySem.W.Frag} {mg : Str → Option Value} {base : Heap} {g : Gx} {lv : Nat} {X : L2.Cx} {sc : Scope} (G : Good P w K mg base g lv X sc) : X.N.Nodup := by rw [G.N]; exact G.nd
theorem Good.roomy {P : Program} {w : World} {K : PySem.W.Frag} {mg : Str → Option Value} {base : Heap} {g : Gx} {lv : Nat} {X : L2.Cx} {sc : Scope} (G : Good P w K mg base g lv X sc) : Roomy X := by
  have := G.room.un
  unfold Roomy
  omega
def vis (sc : Scope) (x : Str) : Bool := match sc.names.lookup x with
  | some .local => true
  | some .cell => true
  | some .free => true
  | _ => false
def glo (sc : Scope) (x : Str) : Bool := match sc.names.lookup x with
  | some .globalImplicit => true
  | _ => false
theorem vis_ok {sc : Scope} {x : Str} (h : vis sc x = true) : Vis sc x := by
  unfold vis at h
  unfold Vis
  cases q : sc.names.lookup x with
  | none => rw [q] at h; cases h
  | some k => cases k <;> rw [q] at h <;> simp at h ⊢
theorem glo_ok {X : L2.Cx} {sc : Scope} (e : X.env.scope = sc) {x : Str} (h : glo sc x = true) : Gl X x := by
  unfold glo at h
  show X.env.scope.names.lookup x = some .globalImplicit
  rw [e]
  cases q : sc.names.lookup x with
  | none => rw [q] at h; cases h
  | some k => cases k <;> rw [q] at h <;> simp at h ⊢
/-- a plain name -/
def okName (x : Str) : Bool := !(x == ("__debug__" : Str)) && !(x == ("__classdict__" : Str)) && !(x == ("__name__" : Str))
theorem okName_dbg {x : Str} (h : okName x = true) : (x == ("__debug__" : Str)) = false := by
  unfold okName at h
  simp only [Bool.and_eq_true, Bool.not_eq_true'] at h
  exact h.1.1
theorem okName_cd {x : Str} (h : okName x = true) : (x == ("__classdict__" : Str)) = false := by
  unfold okName at h
  simp only [Bool.and_eq_true, Bool.not_eq_true'] at h
  exact h.1.2
theorem okName_nm {x : Str} (h : okName x = true) : x ≠ "__name__" := by
  unfold okName at h
  simp only [Bool.and_eq_true, Bool.not_eq_true'] at h
  exact fun e => by
    rw [e] at h
    simp at h
end Snd

set_option Elab.async false
set_option linter.all false
set_option maxRecDepth 100000
set_option maxHeartbeats 2000000
namespace Snd
open PySem PySem.Spec L2
open PyProof.Rows hiding St

def conB (g : Gx) (sc : Scope) : Tr → Expr → Bool
  | .non, .Constant .none _ _ => true
  | .bl b, .Constant (.bool b') _ _ => b == b'
  | .int i, .Constant (.int j) _ _ => decide (i = j)
  | .str s, .Constant (.str x) _ _ => decide (s = x.cps.toList)
  | .int i, .Name x _ => glo sc x && okName x && decide (g.consts x = some i)
  | _, _ => false
def sameOp (o : Operator) (b : Py.Bop) : Bool := match o, b with
  | .Add, .add => true
  | .Sub, .sub => true
  | .Mult, .mul => true
  | .FloorDiv, .fdiv => true
  | .Mod, .mod => true
  | .Pow, .pow => true
  | _, _ => false
def sameCmp (o : CmpOp) (b : Py.Cop) : Bool := match o, b with
  | .Eq, .eq => true
  | .NotEq, .ne => true
  | .Lt, .lt => true
  | .LtE, .le => true
  | .Gt, .gt => true
  | .GtE, .ge => true
  | .In, .isin => true
  | .NotIn, .nin => true
  | .Is, .is => true
  | .IsNot, .isnt => true
  | _, _ => false
theorem sameOp_ok {o : Operator} {b : Py.Bop} (h : sameOp o b = true) : o = bopOf b := by cases o <;> cases b <;> simp [sameOp] at h <;> rfl
theorem sameCmp_ok {o : CmpOp} {b : Py.Cop} (h : sameCmp o b = true) : o = copOf b := by cases o <;> cases b <;> simp [sameCmp] at h <;> rfl
/-- the built-in's name, and how many arguments -/
def biName : Py.Bi → Str × Nat
  | .len => ("len", 1)
  | .abs => ("abs", 1)
  | .int => ("int", 1)
  | .str => ("str", 1)
  | .sum => ("sum", 1)
  | .min => ("min", 1)
  | .max => ("max", 1)
  | .min2 => ("min", 2)
  | .max2 => ("max", 2)
  | .sorted => ("sorted", 1)
  | .tuple => ("tuple", 1)
  | .list => ("list", 1)
  | .all => ("all", 1)
  | .any => ("any", 1)
  | _ => ("isinstance", 1)
def isiName : Py.Bi → Option Str
  | .isint => some "int"
  | .isbool => some "bool"
  | .istup => some "tuple"
  | .isstr => some "str"
  | .islst => some "list"
  | _ => none
/-- no call without arguments (super's form) -/
def baseOk : Expr → Bool
  | .Call (.Name _ _) [] [] _ => false
  | _ => true
/-- kinds of a target's names in the scope as it is written -/
def locB (rs : Scope) (x : Str) : Bool := match rs.names.lookup x with
  | some .local => true
  | some .cell => true
  | _ => false
def glOk (g : Gx) (sc : Scope) (x : Str) : Bool := glo sc x && okName x && g.free x
/-- the target's slots are among these -/
def tgtSub : Py.Tgt → List Nat → Bool
  | .n i, own => own.contains i
  | .nil, _ => true
  | .cons a r, own => tgtSub a own && tgtSub r own
mutual
def chkT (g : Gx) (rs : Scope) : Py.Tgt → Expr → Bool
  | .n i, .Name x _ => decide (g.N[i]? = some x) && locB rs x && decide (i < g.N.length)
  | .cons a r, .Tuple es _ _ => (match es with
    | e :: es => chkT g rs a e && chkTs g rs r es
    | [] => false)
  | _, _ => false
def chkTs (g : Gx) (rs : Scope) : Py.Tgt → List Expr → Bool
  | .nil, [] => true
  | .cons a r, e :: es => chkT g rs a e && chkTs g rs r es
  | _, _ => false
end
def ownP (g : Gx) (own : List Nat) : List (Str × Nat) := own.filterMap fun i => (g.N[i]?).map fun x => (x, i)
def blkB (g : Gx) (sc scope : Scope) (own : List Nat) : Bool := blkC g.N sc scope (ownP g own) && decide ((ownP g own).map (·.2) = own)
def ifsB (p : Expr → Bool) (ifs : List Expr) (d : Py.E) : Bool := match ifs with
  | [] => (match d with | .con (.bl true) => true | _ => false)
  | [u] => p u
  | _ => false
def partB (p : Expr → Bool) (l : Option Expr) (lo : Py.E) : Bool := match l with
  | none => Py.isNonE lo
  | some l => !Py.isNonE lo && p l
def isDnil : Py.E → Bool
  | .dnil => true
  | _ => false
def isTupTg : Expr → Bool
  | .Tuple _ _ _ => true
  | _ => false
def isRg : Py.E → Bool
  | .rng1 _ => true
  | .rng2 _ _ => true
  | _ => false
def isNil : Py.E → Bool
  | .nil => true
  | _ => false
/-- a list of arguments, by the check of each -/
def seqB (p : Py.E → Expr → Bool) : Py.E → List Expr → Bool
  | .nil, [] => true
  | .cons a r, x :: xs => p a x && seqB p r xs
  | _, _ => false
mutual
def chk (g : Gx) (sc : Scope) : Py.E → Expr → Bool
  | .var i => fun e => (match e with
    | .Name x _ => decide (g.N[i]? = some x) && vis sc x && okName x
    | _ => false)
  | .con t => fun e => conB g sc t e
  | .tup es => fun e => (match e with
    | .Tuple xs _ _ => chkL g sc es xs
    | _ => false)
  | .lst es => fun e => (match e with
    | .List xs _ => chkL g sc es xs
    | _ => false)
  | .dnil => fun e => (match e with
    | .Dict [] [] _ => true
    | _ => false)
  | .dcons k v r => fun e => (match e with
    | .Dict [some kx] [vx] _ => isDnil r && chk g sc k kx && chk g sc v vx
    | _ => false)
  | .bin o a b => fun e => (match e with
    | .BinOp x op y _ => sameOp op o && chk g sc a x && chk g sc b y
    | _ => false)
  | .neg a => fun e => (match e with
    | .UnaryOp .USub x _ => chk g sc a x
    | _ => false)
  | .not a => fun e => (match e with
    | .UnaryOp .Not x _ => chk g sc a x
    | _ => false)
  | .and a b => fun e => (match e with
    | .BoolOp .And (x :: y :: r) p => chk g sc a x && (match r with
      | [] => chk g sc b y
      | _ => chk g sc b (.BoolOp .And (y :: r) p))
    | _ => false)
  | .or a b => fun e => (match e with
    | .BoolOp .Or (x :: y :: r) p => chk g sc a x && (match r with
      | [] => chk g sc b y
      | _ => chk g sc b (.BoolOp .Or (y :: r) p))
    | _ => false)
  | .cmp o a b => fun e => (match e with
    | .Compare x [op] [y] _ => sameCmp op o && chk g sc a x && chk g sc b y && !behindInMarks op y
    | _ => false)
  | .chain o p a b d => fun e => (match e with
    | .Compare x [op, op'] [y, z] _ => sameCmp op o && sameCmp op' p && chk g sc a x && chk g sc b y && chk g sc d z && !lastMarks [op, op'] [y, z]
    | _ => false)
  | .ite d a b => fun e => (match e with
    | .IfExp x y z _ => chk g sc d x && chk g sc a y && chk g sc b z
    | _ => false)
  | .call f es => fun e => (match e with
    | .Call (.Name x _) xs [] _ => glo sc x && okName x && decide (g.defs f = some x) && chkL g sc es xs
    | _ => false)
  | .roll a n => fun e => (match e with
    | .Call (.Name x _) [y, z] [] _ => glo sc x && okName x && decide (x = g.roll) && chk g sc a y && chk g sc n z
    | _ => false)
  | .bi b es => fun e => (match e with
    | .Call (.Name x _) xs [] _ => glOk g sc x && (match isiName b with
      | some t => decide (x = "isinstance") && (match xs with
        | [y, .Name u _] => decide (u = t) && glOk g sc u && chkL g sc es [y]
        | _ => false)
      | none => decide (x = (biName b).1) && decide ((biName b).2 = xs.length) && chkL g sc es xs)
    | _ => false)
  | .rngs b a => fun e => (match e with
    | .Call (.Name x _) [y] [] _ => glOk g sc x && decide (x = if b then "tuple" else "list") && isRg a && chkIt g sc false a y
    | _ => false)
  | .get1 a k => fun e => (match e with
    | .Call (.Attribute x m ap) [y] [] cp => decide (m = "get") && decide (ap.endLine = cp.line) && baseOk x && chk g sc a x && chk g sc k y
    | _ => false)
  | .get2 a k d => fun e => (match e with
    | .Call (.Attribute x m ap) [y, z] [] cp => decide (m = "get") && decide (ap.endLine = cp.line) && baseOk x && chk g sc a x && chk g sc k y && chk g sc d z
    | _ => false)
  | .idx a i => fun e => (match e with
    | .Subscript x y _ => chk g sc a x && chk g sc i y
    | _ => false)
  | .slc a lo hi => fun e => (match e with
    | .Subscript x (.Slice l h none _) _ => chk g sc a x && partB (chk g sc lo) l lo && partB (chk g sc hi) h hi
    | _ => false)
  | .rev a => fun e => (match e with
    | .Subscript x (.Slice none none (some (.UnaryOp .USub (.Constant (.int j) _ _) _)) _) _ => decide (j = 1) && chk g sc a x
    | _ => false)
  | .sset a => fun e => (match e with
    | .Call (.Name x _) [.Call (.Name y _) [z] [] _] [] _ => decide (x = "sorted") && decide (y = "set") && glOk g sc x && glOk g sc y && chk g sc a z
    | _ => false)
  | .slen a => fun e => (match e with
    | .Call (.Name x _) [.Call (.Name y _) [z] [] _] [] _ => decide (x = "len") && decide (y = "set") && glOk g sc x && glOk g sc y && chk g sc a z
    | _ => false)
  | .rngd a b => fun e => (match e with
    | .Call (.Name x _) [.Call (.Name y _) [z, u, .UnaryOp .USub (.Constant (.int j) _ _) _] [] _] [] _ => decide (x = "tuple") && decide (y = "range") && decide (j = 1) && glOk g sc x && glOk g sc y && chk g sc a z && chk g sc b u
    | _ => false)
  | .index a k => fun e => (match e with
    | .Call (.Attribute x m ap) [y] [] cp => decide (m = "index") && decide (ap.endLine = cp.line) && baseOk x && chk g sc a x && chk g sc k y
    | _ => false)
  | .count a k => fun e => (match e with
    | .Call (.Attribute x m ap) [y] [] cp => decide (m = "count") && decide (ap.endLine = cp.line) && baseOk x && chk g sc a x && chk g sc k y
    | _ => false)
  | .lc t it d own el => fun e => (match e with
    | .ListComp x [⟨tg, iter, ifs, j⟩] scope _ => decide (j = 0) && (chkIt g sc (isTupTg tg) it iter || chk g sc it iter) && blkB g sc scope own && tgtSub t own && chkT g scope t tg && ifsB (chk g (relS scope sc) d) ifs d && chk g (relS scope sc) el x
    | _ => false)
  | .lc2 t it d t1 own1 it1 d1 own el => fun e => (match e with
    | .ListComp x [⟨tg, iter, ifs, j⟩, ⟨tg1, iter1, ifs1, j1⟩] scope _ => decide (j = 0) && decide (j1 = 0) && (chkIt g sc (isTupTg tg) it iter || chk g sc it iter) && blkB g sc scope own && tgtSub t own && chkT g scope t tg && ifsB (chk g (relS scope sc) d) ifs d
      && (chkIt g (relS scope sc) (isTupTg tg1) it1 iter1 || chk g (relS scope sc) it1 iter1) && tgtSub t1 own1 && chkT g scope t1 tg1 && ifsB (chk g (relS scope sc) d1) ifs1 d1 && (own1.all fun i => own.contains i) && chk g (relS scope sc) el x
    | _ => false)
  | .dc t it d own k v => fun e => (match e with
    | .DictComp x y [⟨tg, iter, ifs, j⟩] scope _ => decide (j = 0) && (chkIt g sc (isTupTg tg) it iter || chk g sc it iter) && blkB g sc scope own && tgtSub t own && chkT g scope t tg && ifsB (chk g (relS scope sc) d) ifs d && chk g (relS scope sc) k x && chk g (relS scope sc) v y
    | _ => false)
  | _ => fun _ => false
def chkL (g : Gx) (sc : Scope) : Py.E → List Expr → Bool
  | .nil => fun xs => xs.isEmpty
  | .cons a r => fun xs => (match xs with
    | x :: xs => chk g sc a x && chkL g sc r xs
    | [] => false)
  | _ => fun _ => false
/-- what is walked; tb: the target is a tuple -/
def chkIt (g : Gx) (sc : Scope) (tb : Bool) : Py.E → Expr → Bool
  | .rng1 a => fun e => (match e with
    | .Call (.Name x _) [y] [] _ => decide (x = "range") && glOk g sc x && chk g sc a y
    | _ => false)
  | .rng2 a b => fun e => (match e with
    | .Call (.Name x _) [y, z] [] _ => decide (x = "range") && glOk g sc x && chk g sc a y && chk g sc b z
    | _ => false)
  | .zip2 a b => fun e => (match e with
    | .Call (.Name x _) [y, z] [] _ => tb && decide (x = "zip") && glOk g sc x && chk g sc a y && chk g sc b z
    | _ => false)
  | .enum a => fun e => (match e with
    | .Call (.Name x _) [y] [] _ => tb && decide (x = "enumerate") && glOk g sc x && chk g sc a y
    | _ => false)
  | _ => fun _ => false
end
theorem chk_noStar (g : Gx) (sc : Scope) : ∀ (e : Py.E) (x : Expr) (p : Pos), chk g sc e (.Starred x p) = false := by
  intro e x p
  cases e with
  | con t => cases t <;> rfl
  | _ => rfl
theorem chk_noSlice (g : Gx) (sc : Scope) : ∀ (e : Py.E) (a b d : Option Expr) (p : Pos), chk g sc e (.Slice a b d p) = false := by
  intro e a b d p
  cases e with
  | con t => cases t <;> rfl
  | _ => rfl
theorem star_of {g : Gx} {sc : Scope} {e : Py.E} {x : Expr} (h : chk g sc e x = true) (xs : List Expr) (env : Env) : starEach (x :: xs) env = (false, eval x env) :: starEach xs env := by
  cases x with
  | Starred y p => rw [chk_noStar] at h; cases h
  | _ => rfl
theorem plain_args {g : Gx} {sc : Scope} {env : Env} {pos : Pos} : ∀ {e : Py.E} {xs : List Expr}, chkL g sc e xs = true → (backTo pos (starEach xs env)).any (·.1) = false := by
  intro e
  induction e with
  | nil =>
    intro xs h
    cases xs with
    | nil => rfl
    | cons _ _ => cases h
  | cons a r iha ihr =>
    intro xs h
    cases xs with
    | nil => cases h
    | cons x xs =>
      obtain ⟨h1, h2⟩ := andB (show (chk g sc a x && chkL g sc r xs) = true from h)
      rw [star_of h1]
      unfold backTo
      rw [List.map_cons, List.any_cons]
      exact ihr h2
  | _ =>
    intro xs h
    cases h
theorem plainIx_of {g : Gx} {sc : Scope} {e : Py.E} {x : Expr} (h : chk g sc e x = true) : PlainIx x := by
  cases x with
  | Slice a b d p => rw [chk_noSlice] at h; cases h
  | _ => exact fun _ _ => rfl
end Snd

set_option Elab.async false
set_option linter.all false
set_option maxRecDepth 100000
set_option maxHeartbeats 2000000
namespace Snd
open PySem PySem.Spec L2
open PyProof.Rows hiding St
/-- a def's promise: it gives what f gives -/
def spF (K : PySem.W.Frag) (c : Addr) (f : List Tr → Py.M Tr) : Sp := fun vs H Q _ => ∃ (B : Bn) (ts : List Tr), Here B c H ∧ RepL K H B c ts vs ∧ WP (f ts) (Aft K B c H Q)
/-- the draw's promise -/
def spRoll (c : Addr) : Sp := fun vs H Q _ => ∃ n : Int, vs = [.ref c, .int n] ∧ 0 < n ∧ n < 1073741824 ∧ CupOk H c ∧ ∀ (r : Int) (H' : Hp), 0 ≤ r → r < n → Ext c H H' → CupOk H' c → Q (.int r) H'
structure Facts (C : Py.Cx) (P : Program) (w : World) (K : PySem.W.Frag) (mg : Str → Option Value) (base : Heap) (g : Gx) (lv : Nat) (c : Addr) : Prop where
  call : ∀ f x, g.defs f = some x → ∃ (fa : Addr) (fd : FuncData) (ps : List Str), mg x = some (.ref fa) ∧ PySem.W.keepIn K (.ref fa) = true ∧ Binds K fd ps [] ∧ FnOk P w K mg base CX0 lv fa fd ps (spF K c (C.call f))
  roll : ∃ (fa : Addr) (fd : FuncData) (ps : List Str), mg g.roll = some (.ref fa) ∧ PySem.W.keepIn K (.ref fa) = true ∧ Binds K fd ps [] ∧ FnOk P w K mg base CX0 lv fa fd ps (spRoll c)
  const : ∀ x i, g.consts x = some i → ∃ t, mg x = some (.int i t)
  free : ∀ x, g.free x = true → mg x = none
section
variable {C : Py.Cx} {P : Program} {w : World} {K : PySem.W.Frag} {mg : Str → Option Value} {base : Heap} {g : Gx} {lv : Nat} {c : Addr}
def okM (m : Md) (e : Py.E) : Prop := m = .f → fresh e = true
variable (C P w K mg base g lv c) in
/-- the term e is what its text means -/
structure SndE (e : Py.E) : Prop where
  pe : ∀ (X : L2.Cx) (sc : Scope) (x : Expr) (m : Md), Good P w K mg base g lv X sc → chk g sc e x = true → okM m e → PE X x (tE C K c m e)
  pt : ∀ (X : L2.Cx) (sc : Scope) (x : Expr), Good P w K mg base g lv X sc → chk g sc e x = true → PT X x (tT C K c e)
  pa : ∀ (X : L2.Cx) (sc : Scope) (xs : List Expr) (b : Bool), Good P w K mg base g lv X sc → chkL g sc e xs = true → PA X xs (tA C K c b e)
abbrev SN (C : Py.Cx) (P : Program) (w : World) (K : PySem.W.Frag) (mg : Str → Option Value) (base : Heap) (g : Gx) (lv : Nat) (c : Addr) (e : Py.E) : Prop := SndE C P w K mg base g lv c e
theorem getv_some : ∀ {env : Py.Env} {i : Nat} {Q : Tr → Prop}, WP (Py.getv env i) Q → ∃ t, env[i]? = some (some t) ∧ Q t
  | [], _, _, h => False.elim h
  | some t :: _, 0, _, h => ⟨t, rfl, h⟩
  | none :: _, 0, _, h => False.elim h
  | x :: r, n + 1, Q, h => by
    have h' : WP (Py.getv r n) Q := by cases x <;> exact h
    obtain ⟨t, e, q⟩ := getv_some h'
    exact ⟨t, by simpa using e, q⟩
/-- a test whose value is a bool (neither and, or, not, a comparison, an if-expression) -/
theorem pt_ofE {X : L2.Cx} {x : Expr} {e : Py.E} (h : PE X x (tE C K c .w e)) (he : ∀ whole, isTrue x X.env whole = (do let v ← whole; standAt x.pos; holding [v] (truthy v))) : PT X x (tT C K c e) := by
  refine PT.imp (pt_val h he) fun σ H Q ⟨env, hH, ev, hw⟩ => ?_
  refine ⟨B0, env, hH, ev.mono (fun _ _ => rfl), (wp_and.mp hw).mono fun t ht v H' x k r => ?_⟩
  obtain ⟨b, rfl, q⟩ := asB_wp ht
  exact ⟨b, wBl (show RepW K H' B0 c (.bl b) v from r), q H' x k⟩
/-- nothing but a value -/
theorem snd_val {e : Py.E} (pe : ∀ (X : L2.Cx) (sc : Scope) (x : Expr) (m : Md), Good P w K mg base g lv X sc → chk g sc e x = true → okM m e → PE X x (tE C K c m e))
    (he : ∀ (X : L2.Cx) (sc : Scope) (x : Expr), chk g sc e x = true → ∀ whole, isTrue x X.env whole = (do let v ← whole; standAt x.pos; holding [v] (truthy v)))
    (hl : ∀ (sc : Scope) (xs : List Expr), chkL g sc e xs = false) : SndE C P w K mg base g lv c e where
  pe := pe
  pt := fun X sc x G h => pt_ofE (pe X sc x .w G h (fun z => nomatch z)) (he X sc x h)
  pa := fun X sc xs b G h => by rw [hl] at h; cases h
/-- nothing at all -/
theorem snd_none {e : Py.E} (hk : ∀ (sc : Scope) (x : Expr), chk g sc e x = false) (hl : ∀ (sc : Scope) (xs : List Expr), chkL g sc e xs = false) : SndE C P w K mg base g lv c e where
  pe := fun X sc x m G h => by rw [hk] at h; cases h
  pt := fun X sc x G h => by rw [hk] at h; cases h
  pa := fun X sc xs b G h => by rw [hl] at h; cases h
theorem andB3 {a b d : Bool} (h : (a && b && d) = true) : a = true ∧ b = true ∧ d = true := by
  obtain ⟨h1, h2⟩ := andB h
  obtain ⟨h3, h4⟩ := andB h1
  exact ⟨h3, h4, h2⟩

theorem snd_var (i : Nat) : SndE C P w K mg base g lv c (.var i) := by
  refine snd_val (fun X sc x m G h hm => ?_) (fun X sc x h whole => ?_) (fun _ _ => rfl)
  · cases x with
    | Name x p =>
      obtain ⟨h1, h2, h3⟩ := andB3 (show (decide (g.N[i]? = some x) && vis sc x && okName x) = true from h)
      have hN : X.N[i]? = some x := by rw [G.N]; exact of_decide_eq_true h1
      refine PE.imp (pe_var hN (by rw [G.sc]; exact vis_ok h2) (okName_dbg h3) (okName_cd h3)) fun σ H Q ⟨B, env, hH, ev, hw⟩ => ?_
      obtain ⟨t, e, q⟩ := getv_some hw
      obtain ⟨v, e1, r1, r2⟩ := ev.get i t e
      refine ⟨v, e1, q v H (Ext.refl c H) hH.cup ?_⟩
      cases m with
      | w => exact r1
      | s => exact r2 (by simp [esc, isW])
      | f => exact absurd (hm rfl) (by simp [fresh])
    | _ => cases h
  · cases x with
    | Name x p => rfl
    | _ => cases h
theorem fresh_scalI {K : PySem.W.Frag} {c : Addr} {i : Int} {H : Hp} : ∀ H0 B, Fresh K H0 H B c (.int i) (.int i) := fun _ _ => show Rep K H _ c _ _ from repI
theorem fresh_scalB {K : PySem.W.Frag} {c : Addr} {b : Bool} {H : Hp} : ∀ H0 B, Fresh K H0 H B c (.bl b) (.bl b) := fun _ _ => show Rep K H _ c _ _ from repB
theorem fresh_scalN {K : PySem.W.Frag} {c : Addr} {H : Hp} : ∀ H0 B, Fresh K H0 H B c .non .non := fun _ _ => show Rep K H _ c _ _ from repN
theorem fresh_scalS {K : PySem.W.Frag} {c : Addr} {s : List Nat} {H : Hp} : ∀ H0 B, Fresh K H0 H B c (.str s) (.str ⟨s.toArray⟩) := fun _ _ => show Rep K H _ c _ _ from repS
theorem snd_con (F : Facts C P w K mg base g lv c) (t : Tr) : SndE C P w K mg base g lv c (.con t) := by
  refine snd_val (fun X sc x m G h hm => ?_) (fun X sc x h whole => ?_) (fun _ _ => rfl)
  · have key : ∀ {v : V}, (∀ H B, Rep K H B c t v) → (∀ H H0 B, Fresh K H0 H B c t v) → PE X x (tC v) → PE X x (tE C K c m (.con t)) := fun {v} r f p => PE.imp p fun σ H Q ⟨B, env, hH, ev, hw⟩ => Post.scal (show Post m K B c H Q t from hw) (Ext.refl c H) hH.cup (r H) (f H)
    have h' : conB g sc t x = true := h
    cases t with
    | non =>
      cases x with
      | Constant k n p => cases k with
        | none => exact key (fun _ _ => repN) (fun _ => fresh_scalN) pe_non
        | _ => cases h'
      | _ => cases h'
    | bl b =>
      cases x with
      | Constant k n p => cases k with
        | bool b' =>
          have e : b = b' := by simpa [conB] using h'
          subst e
          exact key (fun _ _ => repB) (fun _ => fresh_scalB) pe_bl
        | _ => cases h'
      | _ => cases h'
    | int i =>
      cases x with
      | Constant k n p => cases k with
        | int j =>
          have e : i = j := by simpa [conB] using h'
          subst e
          exact key (fun _ _ => repI) (fun _ => fresh_scalI) pe_int
        | _ => cases h'
      | Name x p =>
        obtain ⟨h1, h2, h3⟩ := andB3 (show (glo sc x && okName x && decide (g.consts x = some i)) = true from h')
        obtain ⟨tk, hm'⟩ := F.const x i (of_decide_eq_true h3)
        exact key (fun _ _ => repI) (fun _ => fresh_scalI) (pe_glob (glo_ok G.sc h1) (by rw [G.mg]; exact hm') ⟨tk, rfl⟩ (okName_dbg h2))
      | _ => cases h'
    | str s =>
      cases x with
      | Constant k n p => cases k with
        | str z =>
          have e : s = z.cps.toList := by simpa [conB] using h'
          have e2 : z = ⟨s.toArray⟩ := by rw [e]
          exact key (v := .str ⟨s.toArray⟩) (fun _ _ => repS) (fun _ => fresh_scalS) (by rw [e2]; exact pe_str)
        | _ => cases h'
      | _ => cases h'
    | _ => cases x <;> cases h'
  · have h' : conB g sc t x = true := h
    cases x with
    | Constant k n p => rfl
    | Name x p => rfl
    | _ => cases t <;> cases h'
theorem snd_nil : SndE C P w K mg base g lv c .nil where
  pe := fun X sc x m G h => by cases h
  pt := fun X sc x G h => by cases h
  pa := fun X sc xs b G h => by
    cases xs with
    | nil =>
      refine PA.imp pa_nil fun σ H Q ⟨B, env, hH, ev, hw⟩ => ?_
      refine hw [] H (Ext.refl c H) hH.cup ?_
      cases b
      · exact (show RepL K H B c [] [] from RepL.nil)
      · exact (show RepWs K H B c [] [] from rfl)
    | cons _ _ => cases h
theorem consT_wp {x y : Tr} {Q : List Tr → Prop} (h : WP ((Py.consT x y).bind Py.argsOf) Q) : ∃ ys, y = .tup ys ∧ Q (x :: ys) := by
  cases y with
  | tup ys => exact ⟨ys, rfl, h⟩
  | _ => exact False.elim h
theorem den_cons_args (C : Py.Cx) (a r : Py.E) (env : Py.Env) : (Py.den C (.cons a r) env).bind Py.argsOf = (Py.den C a env).bind fun x => (Py.den C r env).bind fun y => (Py.consT x y).bind Py.argsOf := by
  show ((Py.den C a env).bind fun x => (Py.den C r env).bind fun y => Py.consT x y).bind Py.argsOf = _
  rw [Py.bind_assoc]
  congr; funext x
  rw [Py.bind_assoc]
theorem snd_cons {a r : Py.E} (ha : SN C P w K mg base g lv c a) (hr : SN C P w K mg base g lv c r) : SndE C P w K mg base g lv c (.cons a r) where
  pe := fun X sc x m G h => by cases h
  pt := fun X sc x G h => by cases h
  pa := fun X sc xs b G h => by
    cases xs with
    | nil => cases h
    | cons x xs =>
      obtain ⟨h1, h2⟩ := andB (show (chk g sc a x && chkL g sc r xs) = true from h)
      refine PA.imp (pa_cons (ha.pe X sc x (if b then .w else .s) G h1 (by cases b <;> exact fun z => nomatch z)) (hr.pa X sc xs b G h2) (star_of h1 xs X.env)) fun σ H Q ⟨B, env, hH, ev, hw⟩ => ?_
      rw [den_cons_args] at hw
      refine ⟨B, env, hH, ev.mono fun i q => ?_, (wp_and.mp hw).mono fun t ht v H1 x1 k1 r1 => ?_⟩
      · cases b <;> simp [esc, isW] at q ⊢ <;> exact .inl q
      · have hH1 := hH.ext x1 k1
        refine ⟨B, env, hH1, (ev.ext x1).mono fun i q => by simp [esc, q], ?_⟩
        refine wp_and.mpr ((wp_and.mp ht).mono fun y hy => ?_)
        obtain ⟨ys, rfl, q⟩ := consT_wp hy
        refine fun vs H2 x2 k2 r2 => q (v :: vs) H2 (x1.trans x2) k2 ?_
        cases b
        · exact RepL.cons (Rep.ext x2 (show Rep K H1 B c _ v from r1)) (show RepL K H2 B c ys vs from r2)
        · exact ⟨v, vs, rfl, RepW.ext x2 (show RepW K H1 B c _ v from r1), (show RepWs K H2 B c ys vs from r2)⟩
theorem argsTup_wp {m : Py.M Tr} {f : List Tr → Py.M Tr} {Q : Tr → Prop} (h : WP (m.bind fun y => (Py.argsOf y).bind f) Q) : WP (m.bind Py.argsOf) fun ts => WP (f ts) Q := by
  refine wp_and.mpr ((wp_and.mp h).mono fun y hy => ?_)
  exact wp_and.mp hy
theorem snd_tup {es : Py.E} (he : SN C P w K mg base g lv c es) : SndE C P w K mg base g lv c (.tup es) := by
  refine snd_val (fun X sc x m G h hm => ?_) (fun X sc x h whole => ?_) (fun _ _ => rfl)
  · cases x with
    | Tuple xs k p =>
      refine PE.imp (pe_tup (he.pa X sc xs false G h)) fun σ H Q ⟨B, env, hH, ev, hw⟩ => ?_
      refine ⟨B, env, hH, ev.mono fun i q => by simpa [esc] using q, (argsTup_wp hw).mono fun ts ht vs H1 x1 k1 r1 => ?_⟩
      obtain ⟨hz, q⟩ := mkTup_wp ht
      have hH1 := hH.ext x1 k1
      have r1 : RepL K H1 B c ts vs := r1
      exact ⟨by rw [← r1.length]; exact hz, fun p hp => (q.toF hH x1 k1).newT hH1 hp r1⟩
    | _ => cases h
  · cases x with
    | Tuple xs k p => rfl
    | _ => cases h
theorem snd_lst {es : Py.E} (he : SN C P w K mg base g lv c es) : SndE C P w K mg base g lv c (.lst es) := by
  refine snd_val (fun X sc x m G h hm => ?_) (fun X sc x h whole => ?_) (fun _ _ => rfl)
  · cases x with
    | List xs p =>
      refine PE.imp (pe_lst (he.pa X sc xs false G h)) fun σ H Q ⟨B, env, hH, ev, hw⟩ => ?_
      refine ⟨B, env, hH, ev.mono fun i q => by simpa [esc] using q, (argsTup_wp hw).mono fun ts ht vs H1 x1 k1 r1 => ?_⟩
      obtain ⟨hz, q⟩ := mkLst_wp ht
      have hH1 := hH.ext x1 k1
      have r1 : RepL K H1 B c ts vs := r1
      exact ⟨by rw [← r1.length]; exact hz, fun p hp => (q.toF hH x1 k1).newL hH1 hp r1⟩
    | _ => cases h
  · cases x with
    | List xs p => rfl
    | _ => cases h
theorem snd_dnil : SndE C P w K mg base g lv c .dnil := by
  refine snd_val (fun X sc x m G h hm => ?_) (fun X sc x h whole => ?_) (fun _ _ => rfl)
  · cases x with
    | Dict ks vs p =>
      cases ks with
      | nil => cases vs with
        | nil =>
          refine PE.imp pe_dnewK fun σ H Q ⟨B, env, hH, ev, hw⟩ => fun p hp => ?_
          have q : Post m K B c H Q (.dct []) := hw
          exact (q.toF hH (Ext.refl c H) hH.cup) (.ref p) _ (Ext.new hp) (hH.new hp) ⟨p, [], rfl, hp, by simp only [RepV], .inl ⟨[], rfl, rfl, upd_same⟩⟩
        | cons _ _ => cases h
      | cons _ _ => cases vs <;> cases h
    | _ => cases h
  · cases x with
    | Dict ks vs p => rfl
    | _ => cases h
end
end Snd

set_option Elab.async false
set_option linter.all false
set_option maxRecDepth 100000
set_option maxHeartbeats 2000000
namespace Snd
open PySem PySem.Spec L2
open PyProof.Rows hiding St
section
variable {C : Py.Cx} {P : Program} {w : World} {K : PySem.W.Frag} {mg : Str → Option Value} {base : Heap} {g : Gx} {lv : Nat} {c : Addr}
/-- a part, evaluated with nothing banned -/
theorem subW {e : Py.E} {es : Nat → Bool} {B : Bn} {env : Py.Env} {σ : L2.St} {H : Hp} {R : Tr → Prop} {Q : VK} (hH : Here B c H) (ev : Ev K c es B σ H env) (h : WP (Py.den C e env) R)
    (k : ∀ t v H1, R t → Ext c H H1 → CupOk H1 c → RepW K H1 B0 c t v → Q v H1) : tE C K c .w e σ H Q :=
  ⟨B0, env, hH.free, ev.free, h.mono fun t r v H1 x1 k1 r1 => k t v H1 r x1 k1 r1⟩
/-- .. with the banned ones kept -/
theorem subB {e : Py.E} {es : Nat → Bool} {B : Bn} {env : Py.Env} {σ : L2.St} {H : Hp} {R : Tr → Prop} {Q : VK} (hH : Here B c H) (ev : Ev K c es B σ H env) (he : ∀ i, esc true e i = true → es i = true) (h : WP (Py.den C e env) R)
    (k : ∀ t v H1, R t → Ext c H H1 → CupOk H1 c → RepW K H1 B c t v → Q v H1) : tE C K c .w e σ H Q :=
  ⟨B, env, hH, ev.mono he, h.mono fun t r v H1 x1 k1 r1 => k t v H1 r x1 k1 r1⟩
theorem okW {e : Py.E} : okM .w e := fun z => nomatch z
theorem snd_bin {a b : Py.E} (o : Py.Bop) (ha : SN C P w K mg base g lv c a) (hb : SN C P w K mg base g lv c b) : SndE C P w K mg base g lv c (.bin o a b) := by
  refine snd_val (fun X sc x m G h hm => ?_) (fun X sc x h whole => ?_) (fun _ _ => rfl)
  · cases x with
    | BinOp x op y p =>
      obtain ⟨h1, h2, h3⟩ := andB3 (show (sameOp op o && chk g sc a x && chk g sc b y) = true from h)
      have e := sameOp_ok h1
      subst e
      refine PE.imp (pe_op (op_bin (c := c) o) (ha.pe X sc x .w G h2 okW) (hb.pe X sc y .w G h3 okW)) fun σ H Q ⟨B, env, hH, ev, hw⟩ => ?_
      refine subB hH ev (fun i q => by simp [esc, q]) (wp_and.mp hw) fun t v H1 ht x1 k1 r1 => ?_
      have hH1 := hH.ext x1 k1
      refine subB hH1 (ev.ext x1) (fun i q => by simp [esc, q]) (wp_and.mp ht) fun u v2 H2 hu x2 k2 r2 => ?_
      rw [G.K]
      exact ⟨B, t, u, hH1.ext x2 k2, r1.ext x2, r2, WP.mono hu fun t p => p.toF hH (x1.trans x2) k2⟩
    | _ => cases h
  · cases x with
    | BinOp x op y p => rfl
    | _ => cases h
theorem snd_neg {a : Py.E} (ha : SN C P w K mg base g lv c a) : SndE C P w K mg base g lv c (.neg a) := by
  refine snd_val (fun X sc x m G h hm => ?_) (fun X sc x h whole => ?_) (fun _ _ => rfl)
  · cases x with
    | UnaryOp op x p => cases op with
      | USub =>
        refine PE.imp (pe_un un_neg (ha.pe X sc x .w G h okW)) fun σ H Q ⟨B, env, hH, ev, hw⟩ => ?_
        refine subW hH ev (wp_and.mp hw) fun t v H1 ht x1 k1 r1 => ?_
        obtain ⟨i, rfl, q⟩ := asI_wp (wp_and.mp ht)
        have e := wInt r1; subst e
        exact ⟨i, rfl, Post.scal (show Post m K B c H Q (.int (-i)) from q) x1 k1 (fun _ => repI) fresh_scalI⟩
      | _ => cases h
    | _ => cases h
  · cases x with
    | UnaryOp op x p => cases op with
      | USub => rfl
      | _ => cases h
    | _ => cases h
theorem snd_not {a : Py.E} (ha : SN C P w K mg base g lv c a) : SndE C P w K mg base g lv c (.not a) where
  pe := fun X sc x m G h hm => by
    cases x with
    | UnaryOp op x p => cases op with
      | Not =>
        refine PE.imp (pe_not (ha.pe X sc x .w G h okW)) fun σ H Q ⟨B, env, hH, ev, hw⟩ => ?_
        refine subW hH ev (wp_and.mp hw) fun t v H1 ht x1 k1 r1 => ?_
        obtain ⟨b, rfl, q⟩ := asB_wp (wp_and.mp ht)
        have e := wBl r1; subst e
        exact ⟨b, rfl, Post.scal (show Post m K B c H Q (.bl (!b)) from q) x1 k1 (fun _ => repB) fresh_scalB⟩
      | _ => cases h
    | _ => cases h
  pt := fun X sc x G h => by
    cases x with
    | UnaryOp op x p => cases op with
      | Not =>
        refine PT.imp (pt_not (ha.pt X sc x G h)) fun σ H Q ⟨env, hH, ev, hw⟩ => ?_
        refine ⟨env, hH, ev, ?_⟩
        have e : (Py.den C (.not a) env).bind Py.asB = ((Py.den C a env).bind Py.asB).bind fun b => .ret (!b) := by
          show ((Py.den C a env).bind fun x => (Py.asB x).bind fun b => .ret (.bl (!b))).bind Py.asB = _
          rw [Py.bind_assoc, Py.bind_assoc]
          congr; funext x
          rw [Py.bind_assoc]; rfl
        rw [e] at hw
        exact wp_and.mp hw
      | _ => cases h
    | _ => cases h
  pa := fun X sc xs b G h => by cases h
theorem den_and (C : Py.Cx) (a b : Py.E) (env : Py.Env) : (Py.den C (.and a b) env).bind Py.asB = ((Py.den C a env).bind Py.asB).bind fun x => if x then (Py.den C b env).bind Py.asB else .ret false := by
  show ((Py.den C a env).bind fun x => (Py.asB x).bind fun c => if c then (Py.den C b env).bind fun y => (Py.asB y).bind fun c => .ret (.bl c) else .ret (.bl false)).bind Py.asB = _
  rw [Py.bind_assoc, Py.bind_assoc]
  congr; funext x
  rw [Py.bind_assoc]
  congr; funext b'
  cases b'
  · rfl
  · simp only [if_true]
    rw [Py.bind_assoc]
    congr; funext y
    rw [Py.bind_assoc]
    exact Py.bind_pure _
theorem den_or (C : Py.Cx) (a b : Py.E) (env : Py.Env) : (Py.den C (.or a b) env).bind Py.asB = ((Py.den C a env).bind Py.asB).bind fun x => if x then .ret true else (Py.den C b env).bind Py.asB := by
  show ((Py.den C a env).bind fun x => (Py.asB x).bind fun c => if c then .ret (.bl true) else (Py.den C b env).bind fun y => (Py.asB y).bind fun c => .ret (.bl c)).bind Py.asB = _
  rw [Py.bind_assoc, Py.bind_assoc]
  congr; funext x
  rw [Py.bind_assoc]
  congr; funext b'
  cases b'
  · simp only [Bool.false_eq_true, if_false]
    rw [Py.bind_assoc]
    congr; funext y
    rw [Py.bind_assoc]
    exact Py.bind_pure _
  · rfl
/-- a part, as a test behind another -/
theorem subT {e : Py.E} {env : Py.Env} {σ : L2.St} {H H1 : Hp} {Q : Bool → Hp → Prop} (hH : Here B0 c H) (ev : Ev K c (fun _ => true) B0 σ H env) (x1 : Ext c H H1) (k1 : CupOk H1 c)
    (h : WP ((Py.den C e env).bind Py.asB) fun b => ∀ H', Ext c H H' → CupOk H' c → Q b H') : tT C K c e σ H1 Q :=
  ⟨env, hH.ext x1 k1, ev.ext x1, h.mono fun b q H' x2 k2 => q H' (x1.trans x2) k2⟩
theorem and_text {a b : Py.E} {sc : Scope} {e : Expr} (h : chk g sc (.and a b) e = true) : ∃ x y r p, e = .BoolOp .And (x :: y :: r) p ∧ chk g sc a x = true ∧ ((r = [] ∧ chk g sc b y = true) ∨ (r ≠ [] ∧ chk g sc b (.BoolOp .And (y :: r) p) = true)) := by
  cases e with
  | BoolOp op xs p => cases op with
    | And => cases xs with
      | nil => cases h
      | cons x xs => cases xs with
        | nil => cases h
        | cons y r =>
          cases r with
          | nil =>
            obtain ⟨h1, h2⟩ := andB (show (chk g sc a x && chk g sc b y) = true from h)
            exact ⟨x, y, [], p, rfl, h1, .inl ⟨rfl, h2⟩⟩
          | cons z r =>
            obtain ⟨h1, h2⟩ := andB (show (chk g sc a x && chk g sc b (.BoolOp .And (y :: z :: r) p)) = true from h)
            exact ⟨x, y, z :: r, p, rfl, h1, .inr ⟨by simp, h2⟩⟩
    | Or => cases h
  | _ => cases h
theorem or_text {a b : Py.E} {sc : Scope} {e : Expr} (h : chk g sc (.or a b) e = true) : ∃ x y r p, e = .BoolOp .Or (x :: y :: r) p ∧ chk g sc a x = true ∧ ((r = [] ∧ chk g sc b y = true) ∨ (r ≠ [] ∧ chk g sc b (.BoolOp .Or (y :: r) p) = true)) := by
  cases e with
  | BoolOp op xs p => cases op with
    | Or => cases xs with
      | nil => cases h
      | cons x xs => cases xs with
        | nil => cases h
        | cons y r =>
          cases r with
          | nil =>
            obtain ⟨h1, h2⟩ := andB (show (chk g sc a x && chk g sc b y) = true from h)
            exact ⟨x, y, [], p, rfl, h1, .inl ⟨rfl, h2⟩⟩
          | cons z r =>
            obtain ⟨h1, h2⟩ := andB (show (chk g sc a x && chk g sc b (.BoolOp .Or (y :: z :: r) p)) = true from h)
            exact ⟨x, y, z :: r, p, rfl, h1, .inr ⟨by simp, h2⟩⟩
    | And => cases h
  | _ => cases h
/-- an expression and its test -/
structure SndBoth (C : Py.Cx) (K : PySem.W.Frag) (c : Addr) (X : L2.Cx) (x : Expr) (e : Py.E) : Prop where
  pe : PE X x (tE C K c .w e)
  pw : PW X x (tT C K c e)
/-- where a chain of and | or goes on -/
theorem snd_and {a b : Py.E} (ha : SN C P w K mg base g lv c a) (hb : SN C P w K mg base g lv c b) (hbw : ∀ (X : L2.Cx) (sc : Scope) (y z : Expr) (r : List Expr) (p : Pos), Good P w K mg base g lv X sc → chk g sc b (.BoolOp .And (y :: z :: r) p) = true → PW X (.BoolOp .And (y :: z :: r) p) (tT C K c b)) :
    SndE C P w K mg base g lv c (.and a b) ∧ ∀ (X : L2.Cx) (sc : Scope) (y z : Expr) (r : List Expr) (p : Pos), Good P w K mg base g lv X sc → chk g sc (.and a b) (.BoolOp .And (y :: z :: r) p) = true → PW X (.BoolOp .And (y :: z :: r) p) (tT C K c (.and a b)) := by
  have pw : ∀ (X : L2.Cx) (sc : Scope) (x y : Expr) (r : List Expr) (p : Pos), Good P w K mg base g lv X sc → chk g sc a x = true → ((r = [] ∧ chk g sc b y = true) ∨ (r ≠ [] ∧ chk g sc b (.BoolOp .And (y :: r) p) = true)) → PW X (.BoolOp .And (x :: y :: r) p) (tT C K c (.and a b)) := by
    intro X sc x y r p G h1 h2
    have tail : PW X (.BoolOp .And (y :: r) p) (tT C K c b) := by
      rcases h2 with ⟨rfl, h2⟩ | ⟨hr, h2⟩
      · exact pw_and1 (hb.pt X sc y G h2)
      · cases r with
        | nil => exact absurd rfl hr
        | cons z r => exact hbw X sc y z r p G h2
    refine PW.imp (pw_and (ha.pt X sc x G h1) tail) fun σ H Q ⟨env, hH, ev, hw⟩ => ?_
    rw [den_and] at hw
    refine ⟨env, hH, ev, (wp_and.mp hw).mono fun b' hb' H1 x1 k1 => ?_⟩
    cases b' with
    | true => exact subT hH ev x1 k1 hb'
    | false => exact hb' H1 x1 k1
  refine ⟨⟨fun X sc e m G h hm => ?_, fun X sc e G h => ?_, fun X sc xs b G h => by cases h⟩, fun X sc y z r p G h => ?_⟩
  · obtain ⟨x, y, r, p, rfl, h1, h2⟩ := and_text h
    have tail : PE X (.BoolOp .And (y :: r) p) (tE C K c .w b) := by
      rcases h2 with ⟨rfl, h2⟩ | ⟨hr, h2⟩
      · exact pe_one (hb.pe X sc y .w G h2 okW)
      · exact hb.pe X sc _ .w G h2 okW
    refine PE.imp (pe_and (ha.pe X sc x .w G h1 okW) tail) fun σ H Q ⟨B, env, hH, ev, hw⟩ => ?_
    refine subW hH ev (wp_and.mp hw) fun t v H1 ht x1 k1 r1 => ?_
    obtain ⟨b', rfl, q⟩ := asB_wp (wp_and.mp ht)
    have e := wBl r1; subst e
    refine ⟨b', rfl, ?_⟩
    cases b' with
    | true =>
      rw [if_pos rfl]
      refine subW (hH.ext x1 k1) (ev.ext x1) (wp_and.mp q) fun t v H2 ht x2 k2 r2 => ?_
      obtain ⟨b', rfl, q⟩ := asB_wp (wp_and.mp ht)
      have e := wBl r2; subst e
      exact Post.scal (show Post m K B c H Q (.bl b') from q) (x1.trans x2) k2 (fun _ => repB) fresh_scalB
    | false =>
      rw [if_neg Bool.false_ne_true]
      exact Post.scal (show Post m K B c H Q (.bl false) from q) x1 k1 (fun _ => repB) fresh_scalB
  · obtain ⟨x, y, r, p, rfl, h1, h2⟩ := and_text h
    exact (pw X sc x y r p G h1 h2).pt
  · obtain ⟨x, y', r', p', e, h1, h2⟩ := and_text h
    cases e
    exact pw X sc _ _ _ _ G h1 h2
theorem snd_or {a b : Py.E} (ha : SN C P w K mg base g lv c a) (hb : SN C P w K mg base g lv c b) (hbw : ∀ (X : L2.Cx) (sc : Scope) (y z : Expr) (r : List Expr) (p : Pos), Good P w K mg base g lv X sc → chk g sc b (.BoolOp .Or (y :: z :: r) p) = true → PW X (.BoolOp .Or (y :: z :: r) p) (tT C K c b)) :
    SndE C P w K mg base g lv c (.or a b) ∧ ∀ (X : L2.Cx) (sc : Scope) (y z : Expr) (r : List Expr) (p : Pos), Good P w K mg base g lv X sc → chk g sc (.or a b) (.BoolOp .Or (y :: z :: r) p) = true → PW X (.BoolOp .Or (y :: z :: r) p) (tT C K c (.or a b)) := by
  have pw : ∀ (X : L2.Cx) (sc : Scope) (x y : Expr) (r : List Expr) (p : Pos), Good P w K mg base g lv X sc → chk g sc a x = true → ((r = [] ∧ chk g sc b y = true) ∨ (r ≠ [] ∧ chk g sc b (.BoolOp .Or (y :: r) p) = true)) → PW X (.BoolOp .Or (x :: y :: r) p) (tT C K c (.or a b)) := by
    intro X sc x y r p G h1 h2
    have tail : PW X (.BoolOp .Or (y :: r) p) (tT C K c b) := by
      rcases h2 with ⟨rfl, h2⟩ | ⟨hr, h2⟩
      · exact pw_or1 (hb.pt X sc y G h2)
      · cases r with
        | nil => exact absurd rfl hr
        | cons z r => exact hbw X sc y z r p G h2
    refine PW.imp (pw_or (ha.pt X sc x G h1) tail) fun σ H Q ⟨env, hH, ev, hw⟩ => ?_
    rw [den_or] at hw
    refine ⟨env, hH, ev, (wp_and.mp hw).mono fun b' hb' H1 x1 k1 => ?_⟩
    cases b' with
    | false => exact subT hH ev x1 k1 hb'
    | true => exact hb' H1 x1 k1
  refine ⟨⟨fun X sc e m G h hm => ?_, fun X sc e G h => ?_, fun X sc xs b G h => by cases h⟩, fun X sc y z r p G h => ?_⟩
  · obtain ⟨x, y, r, p, rfl, h1, h2⟩ := or_text h
    have tail : PE X (.BoolOp .Or (y :: r) p) (tE C K c .w b) := by
      rcases h2 with ⟨rfl, h2⟩ | ⟨hr, h2⟩
      · exact pe_one (hb.pe X sc y .w G h2 okW)
      · exact hb.pe X sc _ .w G h2 okW
    refine PE.imp (pe_or (ha.pe X sc x .w G h1 okW) tail) fun σ H Q ⟨B, env, hH, ev, hw⟩ => ?_
    refine subW hH ev (wp_and.mp hw) fun t v H1 ht x1 k1 r1 => ?_
    obtain ⟨b', rfl, q⟩ := asB_wp (wp_and.mp ht)
    have e := wBl r1; subst e
    refine ⟨b', rfl, ?_⟩
    cases b' with
    | false =>
      rw [if_neg Bool.false_ne_true]
      refine subW (hH.ext x1 k1) (ev.ext x1) (wp_and.mp q) fun t v H2 ht x2 k2 r2 => ?_
      obtain ⟨b', rfl, q⟩ := asB_wp (wp_and.mp ht)
      have e := wBl r2; subst e
      exact Post.scal (show Post m K B c H Q (.bl b') from q) (x1.trans x2) k2 (fun _ => repB) fresh_scalB
    | true =>
      rw [if_pos rfl]
      exact Post.scal (show Post m K B c H Q (.bl true) from q) x1 k1 (fun _ => repB) fresh_scalB
  · obtain ⟨x, y, r, p, rfl, h1, h2⟩ := or_text h
    exact (pw X sc x y r p G h1 h2).pt
  · obtain ⟨x, y', r', p', e, h1, h2⟩ := or_text h
    cases e
    exact pw X sc _ _ _ _ G h1 h2
end
end Snd

set_option Elab.async false
set_option linter.all false
set_option maxRecDepth 100000
set_option maxHeartbeats 2000000
namespace Snd
open PySem PySem.Spec L2
open PyProof.Rows hiding St
theorem wp_false {α : Type} {m : Py.M α} (h : WP m fun _ => False) : False := by
  induction m with
  | ret a => exact h
  | exc n => exact h
  | stuck => exact h
  | roll n k ih => exact ih 0 (h.2.2 0 (Int.le_refl _) h.1)
theorem cmpM_bl {o : Py.Cop} {t u : Tr} {R : Tr → Prop} (h : WP (Py.cmpM o t u) R) : WP (Py.cmpM o t u) fun z => (∃ b, z = .bl b) ∧ R z := by
  cases o <;> (simp only [Py.cmpM] at h ⊢; exact wp_and.mpr ((wp_and.mp h).mono fun b q => ⟨⟨_, rfl⟩, q⟩))
theorem base_ok {x : Expr} (h : baseOk x = true) (m : Str) (env : Env) (whole : Sem Value) : attributeBase x m env whole = whole := by
  unfold attributeBase
  split
  · cases h
  · rfl
section
variable {C : Py.Cx} {P : Program} {w : World} {K : PySem.W.Frag} {mg : Str → Option Value} {base : Heap} {g : Gx} {lv : Nat} {c : Addr}
theorem andB4 {a b d e : Bool} (h : (a && b && d && e) = true) : a = true ∧ b = true ∧ d = true ∧ e = true := by
  obtain ⟨h1, h2⟩ := andB h
  obtain ⟨h3, h4, h5⟩ := andB3 h1
  exact ⟨h3, h4, h5, h2⟩
theorem notB {a : Bool} (h : (!a) = true) : a = false := by cases a <;> simp at h ⊢
theorem snd_cmp {a b : Py.E} (o : Py.Cop) (ha : SN C P w K mg base g lv c a) (hb : SN C P w K mg base g lv c b) : SndE C P w K mg base g lv c (.cmp o a b) := by
  have txt : ∀ {sc : Scope} {e : Expr}, chk g sc (.cmp o a b) e = true → ∃ x y p, e = .Compare x [copOf o] [y] p ∧ chk g sc a x = true ∧ chk g sc b y = true ∧ behindInMarks (copOf o) y = false := by
    intro sc e h
    cases e with
    | Compare x ops ys p =>
      cases ops with
      | nil => cases h
      | cons op ops =>
        cases ops with
        | cons _ _ => cases h
        | nil =>
          cases ys with
          | nil => cases h
          | cons y ys =>
            cases ys with
            | cons _ _ => cases h
            | nil =>
              obtain ⟨h1, h2, h3, h4⟩ := andB4 (show (sameCmp op o && chk g sc a x && chk g sc b y && !behindInMarks op y) = true from h)
              have e := sameCmp_ok h1
              subst e
              exact ⟨x, y, p, rfl, h2, h3, notB h4⟩
    | _ => cases h
  -- the reading of the operation
  have rd : ∀ {X : L2.Cx} {sc : Scope} {B : Bn} {es : Nat → Bool} {env : Py.Env} {σ : L2.St} {H : Hp} {R : Tr → Prop} {Q : VK}, Good P w K mg base g lv X sc → Here B c H → Ev K c es B σ H env → WP (Py.den C (.cmp o a b) env) R → (∀ b H', Ext c H H' → CupOk H' c → R (.bl b) → Q (.bl b) H') → tOp (r2 X.K c (Py.cmpM o)) (tE C K c .w a) (tE C K c .w b) σ H Q := by
    intro X sc B es env σ H R Q G hH ev hw k
    refine subW hH ev (wp_and.mp hw) fun t v H1 ht x1 k1 r1 => ?_
    refine subW (hH.ext x1 k1) (ev.ext x1) (wp_and.mp ht) fun u v2 H2 hu x2 k2 r2 => ?_
    rw [G.K]
    refine ⟨B0, t, u, ((hH.ext x1 k1).ext x2 k2).free, r1.ext x2, r2, (cmpM_bl hu).mono fun z ⟨⟨b', e⟩, q⟩ => ?_⟩
    subst e
    intro v3 H3 x3 k3 r3
    have e := wBl (show RepW K H3 B0 c (.bl b') v3 from r3)
    subst e
    exact k b' H3 ((x1.trans x2).trans x3) k3 q
  refine ⟨fun X sc e m G h hm => ?_, fun X sc e G h => ?_, fun X sc xs b G h => by cases h⟩
  · obtain ⟨x, y, p, rfl, h1, h2, h3⟩ := txt h
    refine PE.imp (pe_cmpR (op_cmp (c := c) G.roomy o) (ha.pe X sc x .w G h1 okW) (hb.pe X sc y .w G h2 okW) h3) fun σ H Q ⟨B, env, hH, ev, hw⟩ => ?_
    exact rd G hH ev hw fun b' H' x' k' q => Post.scal (show Post m K B c H Q (.bl b') from q) x' k' (fun _ => repB) fresh_scalB
  · obtain ⟨x, y, p, rfl, h1, h2, h3⟩ := txt h
    refine PT.imp (pt_cmpR (op_cmp (c := c) G.roomy o) (ha.pe X sc x .w G h1 okW) (hb.pe X sc y .w G h2 okW) h3) fun σ H Q ⟨env, hH, ev, hw⟩ => ?_
    exact rd G hH ev (wp_and.mp hw) fun b' H' x' k' q => ⟨b', rfl, (show ∀ H', Ext c H H' → CupOk H' c → Q b' H' from q) H' x' k'⟩
theorem snd_chain {a b d : Py.E} (o o' : Py.Cop) (ha : SN C P w K mg base g lv c a) (hb : SN C P w K mg base g lv c b) (hd : SN C P w K mg base g lv c d) : SndE C P w K mg base g lv c (.chain o o' a b d) := by
  have txt : ∀ {sc : Scope} {e : Expr}, chk g sc (.chain o o' a b d) e = true → ∃ x y z p, e = .Compare x [copOf o, copOf o'] [y, z] p ∧ chk g sc a x = true ∧ chk g sc b y = true ∧ chk g sc d z = true ∧ lastMarks [copOf o, copOf o'] [y, z] = false := by
    intro sc e h
    cases e with
    | Compare x ops ys p =>
      match ops, ys, h with
      | [op, op'], [y, z], h =>
        obtain ⟨h0, h5, h6⟩ := andB3 (show (sameCmp op o && sameCmp op' o' && chk g sc a x && chk g sc b y && chk g sc d z && !lastMarks [op, op'] [y, z]) = true from h)
        obtain ⟨h1, h2, h3, h4⟩ := andB4 h0
        have e := sameCmp_ok h1
        have e' := sameCmp_ok h2
        subst e
        subst e'
        exact ⟨x, y, z, p, rfl, h3, h4, h5, notB h6⟩
      | [], _, h => cases h
      | [_], _, h => cases h
      | [_, _], [], h => cases h
      | [_, _], [_], h => cases h
      | [_, _], _ :: _ :: _ :: _, h => cases h
      | _ :: _ :: _ :: _, _, h => cases h
    | _ => cases h
  have rd : ∀ {X : L2.Cx} {sc : Scope} {B : Bn} {es : Nat → Bool} {env : Py.Env} {σ : L2.St} {H : Hp} {R : Tr → Prop} {Q : VK}, Good P w K mg base g lv X sc → Here B c H → Ev K c es B σ H env → WP (Py.den C (.chain o o' a b d) env) R → (∀ b H', Ext c H H' → CupOk H' c → R (.bl b) → Q (.bl b) H') → tChain (r2 X.K c (Py.cmpM o)) (r2 X.K c (Py.cmpM o')) (tE C K c .w a) (tE C K c .w b) (tE C K c .w d) σ H Q := by
    intro X sc B es env σ H R Q G hH ev hw k
    refine subW hH ev (wp_and.mp hw) fun t v H1 ht x1 k1 r1 => ?_
    refine subW (hH.ext x1 k1) (ev.ext x1) (wp_and.mp ht) fun u v2 H2 hu x2 k2 r2 => ?_
    rw [G.K]
    have hH2 := (hH.ext x1 k1).ext x2 k2
    refine ⟨B0, t, u, hH2.free, r1.ext x2, r2, (wp_and.mp hu).mono fun z hz => ?_⟩
    obtain ⟨b', rfl, q⟩ := asB_wp (wp_and.mp hz)
    intro v3 H3 x3 k3 r3
    have e := wBl (show RepW K H3 B0 c (.bl b') v3 from r3)
    subst e
    refine ⟨b', rfl, ?_⟩
    cases b' with
    | false =>
      rw [if_neg Bool.false_ne_true]
      exact k false H3 ((x1.trans x2).trans x3) k3 q
    | true =>
      rw [if_pos rfl]
      refine subW (hH2.ext x3 k3) ((ev.ext x1).ext x2 |>.ext x3) (wp_and.mp q) fun z v4 H4 hz4 x4 k4 r4 => ?_
      refine ⟨B0, u, z, (hH2.ext x3 k3).ext x4 k4 |>.free, (r2.ext x3).ext x4, r4, (cmpM_bl hz4).mono fun z ⟨⟨b', e⟩, q⟩ => ?_⟩
      subst e
      intro v5 H5 x5 k5 r5
      have e := wBl (show RepW K H5 B0 c (.bl b') v5 from r5)
      subst e
      exact k b' H5 ((((x1.trans x2).trans x3).trans x4).trans x5) k5 q
  refine ⟨fun X sc e m G h hm => ?_, fun X sc e G h => ?_, fun X sc xs b G h => by cases h⟩
  · obtain ⟨x, y, z, p, rfl, h1, h2, h3, h4⟩ := txt h
    refine PE.imp (pe_chain (op_cmp (c := c) G.roomy o) (op_cmp (c := c) G.roomy o') (ha.pe X sc x .w G h1 okW) (hb.pe X sc y .w G h2 okW) (hd.pe X sc z .w G h3 okW) h4) fun σ H Q ⟨B, env, hH, ev, hw⟩ => ?_
    exact rd G hH ev hw fun b' H' x' k' q => Post.scal (show Post m K B c H Q (.bl b') from q) x' k' (fun _ => repB) fresh_scalB
  · obtain ⟨x, y, z, p, rfl, h1, h2, h3, h4⟩ := txt h
    refine PT.imp (pt_chain (op_cmp (c := c) G.roomy o) (op_cmp (c := c) G.roomy o') (ha.pe X sc x .w G h1 okW) (hb.pe X sc y .w G h2 okW) (hd.pe X sc z .w G h3 okW) h4) fun σ H Q ⟨env, hH, ev, hw⟩ => ?_
    exact rd G hH ev (wp_and.mp hw) fun b' H' x' k' q => ⟨b', rfl, (show ∀ H', Ext c H H' → CupOk H' c → Q b' H' from q) H' x' k'⟩
theorem pt_ifExp {X : L2.Cx} {x y z : Expr} {p : Pos} {tc ta tb : TT} (hc : PT X x tc) (ha : PT X y ta) (hb : PT X z tb) : PT X (.IfExp x y z p) (fun σ H Q => tc σ H fun b H1 => if b = true then ta σ H1 Q else tb σ H1 Q) := by
  refine ⟨fun pins s σ H Q I h => ?_⟩
  show wpAny _ _ (do if ← isTrue x X.env (eval x X.env) then isTrue y X.env (eval y X.env) else isTrue z X.env (eval z X.env)) _ _ _
  refine wpAny_bind (thn (hc.run pins s σ H _ I h) fun b s1 ⟨H1, I1, q⟩ => ?_)
  cases b with
  | true => exact ha.run pins s1 σ H1 Q I1 q
  | false => exact hb.run pins s1 σ H1 Q I1 q
theorem snd_ite {d a b : Py.E} (hd : SN C P w K mg base g lv c d) (ha : SN C P w K mg base g lv c a) (hb : SN C P w K mg base g lv c b) : SndE C P w K mg base g lv c (.ite d a b) := by
  refine ⟨fun X sc e m G h hm => ?_, fun X sc e G h => ?_, fun X sc xs b G h => by cases h⟩
  · cases e with
    | IfExp x y z p =>
      obtain ⟨h1, h2, h3⟩ := andB3 (show (chk g sc d x && chk g sc a y && chk g sc b z) = true from h)
      have hma : okM m a := fun e => by
        have := hm e
        simp only [fresh, Bool.and_eq_true] at this
        exact this.1
      have hmb : okM m b := fun e => by
        have := hm e
        simp only [fresh, Bool.and_eq_true] at this
        exact this.2
      refine PE.imp (pe_ifExp (hd.pt X sc x G h1) (ha.pe X sc y m G h2 hma) (hb.pe X sc z m G h3 hmb)) fun σ H Q ⟨B, env, hH, ev, hw⟩ => ?_
      refine ⟨env, hH.free, ev.free, ?_⟩
      have e : Py.den C (.ite d a b) env = ((Py.den C d env).bind Py.asB).bind fun r => if r then Py.den C a env else Py.den C b env := by rw [Py.bind_assoc]; rfl
      rw [e] at hw
      refine (wp_and.mp hw).mono fun r hr H1 x1 k1 => ?_
      cases r with
      | true => exact ⟨B, env, hH.ext x1 k1, (ev.ext x1).mono fun i q => by simp [esc, q], WP.mono hr fun t p v H2 x2 k2 r2 => p v H2 (x1.trans x2) k2 (by
          cases m with
          | w => exact r2
          | s => exact r2
          | f => exact Fresh.back x1 k1 r2)⟩
      | false => exact ⟨B, env, hH.ext x1 k1, (ev.ext x1).mono fun i q => by simp [esc, q], WP.mono hr fun t p v H2 x2 k2 r2 => p v H2 (x1.trans x2) k2 (by
          cases m with
          | w => exact r2
          | s => exact r2
          | f => exact Fresh.back x1 k1 r2)⟩
    | _ => cases h
  · cases e with
    | IfExp x y z p =>
      obtain ⟨h1, h2, h3⟩ := andB3 (show (chk g sc d x && chk g sc a y && chk g sc b z) = true from h)
      refine PT.imp (pt_ifExp (hd.pt X sc x G h1) (ha.pt X sc y G h2) (hb.pt X sc z G h3)) fun σ H Q ⟨env, hH, ev, hw⟩ => ?_
      refine ⟨env, hH, ev, ?_⟩
      have e : (Py.den C (.ite d a b) env).bind Py.asB = ((Py.den C d env).bind Py.asB).bind fun r => if r then (Py.den C a env).bind Py.asB else (Py.den C b env).bind Py.asB := by
        show ((Py.den C d env).bind fun x => (Py.asB x).bind fun r => if r then Py.den C a env else Py.den C b env).bind Py.asB = _
        rw [Py.bind_assoc, Py.bind_assoc]
        congr; funext x
        rw [Py.bind_assoc]
        congr; funext r
        cases r <;> rfl
      rw [e] at hw
      refine (wp_and.mp hw).mono fun r hr H1 x1 k1 => ?_
      cases r with
      | true => exact subT hH ev x1 k1 hr
      | false => exact subT hH ev x1 k1 hr
    | _ => cases h

theorem snd_call (F : Facts C P w K mg base g lv c) (f : Nat) {es : Py.E} (he : SN C P w K mg base g lv c es) : SndE C P w K mg base g lv c (.call f es) := by
  refine snd_val (fun X sc x m G h hm => ?_) (fun X sc x h whole => ?_) (fun _ _ => rfl)
  · cases x with
    | Call fn xs kws p => cases fn with
      | Name x q => cases kws with
        | nil =>
          obtain ⟨h1, h2, h3, h4⟩ := andB4 (show (glo sc x && okName x && decide (g.defs f = some x) && chkL g sc es xs) = true from h)
          obtain ⟨fa, fd, ps, e1, e2, e3, e4⟩ := F.call f x (of_decide_eq_true h3)
          have e4' : FnOk X.prog X.w X.K X.mg X.base CX0 lv fa fd ps (spF K c (C.call f)) := by rw [G.prog, G.wd, G.K, G.mg, G.base]; exact e4
          have hmf : m ≠ .f := fun e => by have := hm e; simp [fresh] at this
          have fin : ∀ {B : Bn} {H H1 : Hp} {ts : List Tr} {vs : List V} {Q : VK}, Here B c H → Ext c H H1 → CupOk H1 c → RepL K H1 B c ts vs → WP (C.call f ts) (Post m K B c H Q) → spF K c (C.call f) (vs ++ []) H1 Q E0 := by
            intro B H H1 ts vs Q hH x1 k1 r1 hq
            exact ⟨B, ts, hH.ext x1 k1, by rw [List.append_nil]; exact r1, hq.mono fun t p => p.toS hmf x1⟩
          cases xs with
          | nil =>
            refine PE.imp (pe_call0 e4' G.room (glo_ok G.sc h1) (by rw [G.mg]; exact e1) (by rw [G.K]; exact e2) (by rw [G.K]; exact e3) .nil pass0 (okName_dbg h2)) fun σ H Q ⟨B, env, hH, ev, hw⟩ => ?_
            cases es with
            | nil => exact fin (ts := []) (vs := []) hH (Ext.refl c H) hH.cup RepL.nil hw
            | cons _ _ => cases h4
            | _ => cases h4
          | cons y ys =>
            have hA := he.pa X sc (y :: ys) false G h4
            cases es with
            | cons a r =>
              obtain ⟨h5, h6⟩ := andB (show (chk g sc a y && chkL g sc r ys) = true from h4)
              refine PE.imp (pe_call e4' G.room (glo_ok G.sc h1) (by rw [G.mg]; exact e1) (by rw [G.K]; exact e2) (by rw [G.K]; exact e3) .nil pass0 hA (okName_dbg h2) (star_of h5 ys X.env) (plain_args h6)) fun σ H Q ⟨B, env, hH, ev, hw⟩ => ?_
              refine ⟨B, env, hH, ev.mono fun i q => by simpa [esc] using q, (argsTup_wp hw).mono fun ts ht vs H1 x1 k1 r1 => ?_⟩
              exact fin hH x1 k1 (show RepL K H1 B c ts vs from r1) ht
            | nil => cases h4
            | _ => cases h4
        | cons _ _ => cases h
      | _ => cases h
    | _ => cases h
  · cases x with
    | Call fn xs kws p => rfl
    | _ => cases h
theorem snd_roll (F : Facts C P w K mg base g lv c) {a n : Py.E} (ha : SN C P w K mg base g lv c a) (hn : SN C P w K mg base g lv c n) : SndE C P w K mg base g lv c (.roll a n) := by
  refine snd_val (fun X sc x m G h hm => ?_) (fun X sc x h whole => ?_) (fun _ _ => rfl)
  · cases x with
    | Call fn xs kws p => cases fn with
      | Name x q => cases kws with
        | nil =>
          cases xs with
          | nil => cases h
          | cons y xs => cases xs with
            | nil => cases h
            | cons z xs => cases xs with
              | cons _ _ => cases h
              | nil =>
                obtain ⟨h0, h4, h5⟩ := andB3 (show (glo sc x && okName x && decide (x = g.roll) && chk g sc a y && chk g sc n z) = true from h)
                obtain ⟨h1, h2, h3⟩ := andB3 h0
                have e0 := of_decide_eq_true h3
                subst e0
                obtain ⟨fa, fd, ps, e1, e2, e3, e4⟩ := F.roll
                have e4' : FnOk X.prog X.w X.K X.mg X.base CX0 lv fa fd ps (spRoll c) := by rw [G.prog, G.wd, G.K, G.mg, G.base]; exact e4
                refine PE.imp (pe_call e4' G.room (glo_ok G.sc h1) (by rw [G.mg]; exact e1) (by rw [G.K]; exact e2) (by rw [G.K]; exact e3) .nil pass0
                  (pa_cons (ha.pe X sc y .w G h4 okW) (pa_cons (hn.pe X sc z .w G h5 okW) pa_nil (star_of h5 [] X.env)) (star_of h4 [z] X.env)) (okName_dbg h2) (star_of h4 [z] X.env) (by
                    rw [star_of h5 [] X.env]; rfl)) fun σ H Q ⟨B, env, hH, ev, hw⟩ => ?_
                refine subW hH ev (wp_and.mp hw) fun t v H1 ht x1 k1 r1 => ?_
                refine subW (hH.ext x1 k1) (ev.ext x1) (wp_and.mp ht) fun u v2 H2 hu x2 k2 r2 => ?_
                cases t with
                | cup =>
                  obtain ⟨i, rfl, q⟩ := asI_wp (wp_and.mp hu)
                  have e := wCup r1; subst e
                  have e := wInt r2; subst e
                  obtain ⟨q1, q2, q3⟩ := q
                  refine ⟨i, rfl, q1, q2, k2, fun r H3 r0 r1' x3 k3 => ?_⟩
                  exact Post.scal (show Post m K B c H Q (.int r) from q3 r r0 r1') ((x1.trans x2).trans x3) k3 (fun _ => repI) fresh_scalI
                | _ => exact False.elim hu
        | cons _ _ => rcases xs with _ | ⟨_, _ | ⟨_, _ | ⟨_, _⟩⟩⟩ <;> cases h
      | _ => cases h
    | _ => cases h
  · cases x with
    | Call fn xs kws p => rfl
    | _ => cases h
end
end Snd

set_option Elab.async false
set_option linter.all false
set_option maxRecDepth 100000
set_option maxHeartbeats 2000000
namespace Snd
open PySem PySem.Spec L2
open PyProof.Rows hiding St

/-- a number, a boolean, a text, None -/
def scalT : Tr → Bool
  | .non => true
  | .bl _ => true
  | .int _ => true
  | .str _ => true
  | _ => false
def scalB : Py.Bi → Bool
  | .len | .abs | .int | .str | .sum | .all | .any | .isint | .isbool | .istup | .isstr | .islst => true
  | _ => false
theorem biM_scal (b : Py.Bi) (hb : scalB b = true) (ts : List Tr) {R : Tr → Prop} (h : WP (Py.biM b ts) R) : WP (Py.biM b ts) fun t => scalT t = true ∧ R t := by
  revert h
  unfold Py.biM
  split <;> first
    | exact fun h => ⟨rfl, h⟩
    | exact fun h => False.elim h
    | (split <;> first
        | exact fun h => ⟨rfl, h⟩
        | exact fun h => False.elim h)
    | (cases hb; done)
/-- the call rule for each -/
def rB (K : PySem.W.Frag) (c : Addr) (b : Py.Bi) : List V → Hp → VK → Prop := match b with
  | .min => rN K c (Py.biM .min)
  | .max => rN K c (Py.biM .max)
  | .min2 => rN K c (Py.biM .min2)
  | .max2 => rN K c (Py.biM .max2)
  | b => rNF K c (Py.biM b)
theorem pe_bi {X : L2.Cx} {c : Addr} (b : Py.Bi) (hb : isiName b = none) (hu : Roomy X) (hc : X.calm = true) {x : Str} {p pos : Pos} {e : Expr} {es : List Expr} {t : TA} (hx : x = (biName b).1) (hg : Gl X x) (hm : X.mg x = none) (ha : PA X (e :: es) t)
    (he : starEach (e :: es) X.env = (false, eval e X.env) :: starEach es X.env) (hpl : (backTo pos (starEach es X.env)).any (·.1) = false) : PE X (.Call (.Name x p) (e :: es) [] pos) (tCB (rB X.K c b) t) := by
  subst hx
  cases b with
  | len => exact pe_callB cb_len hg hm rfl ha (by decide) (by decide) he hpl
  | abs => exact pe_callB cb_abs hg hm rfl ha (by decide) (by decide) he hpl
  | int => exact pe_callTy cb_int hg hm rfl ha (by decide) (by decide) he hpl
  | str => exact pe_callTy cb_str hg hm rfl ha (by decide) (by decide) he hpl
  | sum => exact pe_callB (cb_sum hc) hg hm rfl ha (by decide) (by decide) he hpl
  | min => exact pe_callB (cb_min hc hu) hg hm rfl ha (by decide) (by decide) he hpl
  | max => exact pe_callB (cb_max hc hu) hg hm rfl ha (by decide) (by decide) he hpl
  | min2 => exact pe_callB (cb_min2 hc hu) hg hm rfl ha (by decide) (by decide) he hpl
  | max2 => exact pe_callB (cb_max2 hc hu) hg hm rfl ha (by decide) (by decide) he hpl
  | sorted => exact pe_callB (cb_sorted hc hu) hg hm rfl ha (by decide) (by decide) he hpl
  | tuple => exact pe_callTy cb_tuple hg hm rfl ha (by decide) (by decide) he hpl
  | list => exact pe_callTy (cb_list hc) hg hm rfl ha (by decide) (by decide) he hpl
  | all => exact pe_callB (cb_all hc) hg hm rfl ha (by decide) (by decide) he hpl
  | any => exact pe_callB (cb_any hc) hg hm rfl ha (by decide) (by decide) he hpl
  | _ => cases hb
theorem scal_fresh {K : PySem.W.Frag} {c : Addr} {B : Bn} {H H0 H1 : Hp} {t : Tr} {v : V} (hs : scalT t = true) (r : Rep K H B c t v) (B' : Bn) : Fresh K H0 H B' c t v := by
  cases t with
  | non => exact (show Rep K H B' c _ v from by simpa only [Rep] using r)
  | bl b => exact (show Rep K H B' c _ v from by simpa only [Rep] using r)
  | int i => exact (show Rep K H B' c _ v from by simpa only [Rep] using r)
  | str s => exact (show Rep K H B' c _ v from by simpa only [Rep] using r)
  | _ => cases hs
theorem fresh_scal {K : PySem.W.Frag} {c : Addr} {B B' : Bn} {H H' H0 : Hp} {t : Tr} {v : V} (hs : scalT t = true) (r : Fresh K H H' B c t v) : Fresh K H0 H' B' c t v := by
  cases t with
  | non => exact (show Rep K H' B' c _ v from by simpa only [Fresh, Rep] using r)
  | bl b => exact (show Rep K H' B' c _ v from by simpa only [Fresh, Rep] using r)
  | int i => exact (show Rep K H' B' c _ v from by simpa only [Fresh, Rep] using r)
  | str s => exact (show Rep K H' B' c _ v from by simpa only [Fresh, Rep] using r)
  | _ => cases hs
section
variable {C : Py.Cx} {P : Program} {w : World} {K : PySem.W.Frag} {mg : Str → Option Value} {base : Heap} {g : Gx} {lv : Nat} {c : Addr}
theorem esc_bi {b : Py.Bi} (hs : scalB b = false) (w : Bool) (es : Py.E) (i : Nat) : esc w (.bi b es) i = esc true es i := by
  cases b <;> first
    | rfl
    | cases hs
theorem biCnt {b : Py.Bi} : (biName b).2 ≠ 0 := by cases b <;> exact fun z => nomatch z
theorem glOk_inv {sc : Scope} {x : Str} (h : glOk g sc x = true) : glo sc x = true ∧ okName x = true ∧ g.free x = true := andB3 h
def hdN (C : Py.Cx) (P : Program) (w : World) (K : PySem.W.Frag) (mg : Str → Option Value) (base : Heap) (g : Gx) (lv : Nat) (c : Addr) (es : Py.E) : Prop := ∀ a r, es = .cons a r → SN C P w K mg base g lv c a
/-- the built-in type's name for each question -/
theorem isi_of {b : Py.Bi} {t : Str} (h : isiName b = some t) : ∃ T : String, bootBuiltins t = some (.type T) ∧ t ≠ "__name__" ∧ (t == ("__debug__" : Str)) = false ∧
    ∀ (K : PySem.W.Frag) (H : Hp) (B : Bn) (c : Addr) (a : Tr) (v : V) (R : Tr → Prop), RepW K H B c a v → WP (Py.biM b [a]) R → ∃ (ty : Value) (r : Bool), TyX K H v ty ∧ PySem.W.kitOne K ty (.type T) = some r ∧ R (.bl r) := by
  cases b <;> (try (cases h; done))
  all_goals
    cases h
    refine ⟨_, rfl, by decide, by decide, fun K H B c a v R r hw => ?_⟩
    cases a with
    | non => have e := wNon r; subst e; exact ⟨_, _, .base .non, kit_ty (by decide +kernel), hw⟩
    | bl b => have e := wBl r; subst e; exact ⟨_, _, .base (.bl b), kit_ty (by decide +kernel), hw⟩
    | int i => have e := wInt r; subst e; exact ⟨_, _, .base (.int i), kit_ty (by decide +kernel), hw⟩
    | str s => have e := wStr r; subst e; exact ⟨_, _, .base (.str _), kit_ty (by decide +kernel), hw⟩
    | tup xs => obtain ⟨q, vs, rfl, _, e, _⟩ := wTup r; exact ⟨_, _, .base (.tup e), kit_ty (by decide +kernel), hw⟩
    | lst xs => obtain ⟨q, vs, rfl, _, e, _⟩ := wLst r; exact ⟨_, _, .base (.lst e), kit_ty (by decide +kernel), hw⟩
    | _ => exact False.elim hw
theorem snd_bi (F : Facts C P w K mg base g lv c) (b : Py.Bi) {es : Py.E} (he : SN C P w K mg base g lv c es) (hh : hdN C P w K mg base g lv c es) : SndE C P w K mg base g lv c (.bi b es) := by
  refine snd_val (fun X sc x m G h hm => ?_) (fun X sc x h whole => ?_) (fun _ _ => rfl)
  · cases x with
    | Call fn xs kws p => cases fn with
      | Name x q => cases kws with
        | nil =>
          obtain ⟨h1, h2⟩ := andB (show (glOk g sc x && (match (generalizing := false) isiName b with
      | some t => decide (x = "isinstance") && (match (generalizing := false) xs with
        | [y, .Name u _] => decide (u = t) && glOk g sc u && chkL g sc es [y]
        | _ => false)
      | none => decide (x = (biName b).1) && decide ((biName b).2 = xs.length) && chkL g sc es xs)) = true from h)
          obtain ⟨g1, g2, g3⟩ := glOk_inv h1
          have hmg : X.mg x = none := by rw [G.mg]; exact F.free x g3
          cases hb : isiName b with
          | none =>
            rw [hb] at h2
            obtain ⟨h3, h4, h5⟩ := andB3 h2
            have h4 := of_decide_eq_true h4
            cases xs with
            | nil => exact absurd h4 biCnt
            | cons y ys =>
              cases es with
              | cons a r =>
                obtain ⟨h6, h7⟩ := andB (show (chk g sc a y && chkL g sc r ys) = true from h5)
                refine PE.imp (pe_bi (c := c) b hb G.roomy G.calm (of_decide_eq_true h3) (glo_ok G.sc g1) hmg (he.pa X sc (y :: ys) true G h5) (star_of h6 ys X.env) (plain_args h7)) fun σ H Q ⟨B, env, hH, ev, hw⟩ => ?_
                have hw := argsTup_wp hw
                by_cases hs : scalB b = true
                · refine ⟨B0, env, hH.free, ev.free, hw.mono fun ts ht vs H1 x1 k1 r1 => ?_⟩
                  have r1 : RepWs K H1 B0 c ts vs := r1
                  have q : rNF K c (Py.biM b) vs H1 Q := ⟨B0, ts, (hH.ext x1 k1).free, r1, (biM_scal b hs ts ht).mono fun t ⟨st, pp⟩ v H2 x2 k2 r2 => pp v H2 (x1.trans x2) k2 ((fresh_scal (H0 := H) (B' := B) st r2).res hH (Ext.refl c H) hH.cup)⟩
                  rw [G.K]
                  cases b <;> first
                    | exact q
                    | (cases hs; done)
                · have hs : scalB b = false := by simpa using hs
                  refine ⟨B, env, hH, ev.mono fun i q => by rw [esc_bi hs]; exact q, hw.mono fun ts ht vs H1 x1 k1 r1 => ?_⟩
                  have r1 : RepWs K H1 B c ts vs := r1
                  have hH1 := hH.ext x1 k1
                  have qF : rNF K c (Py.biM b) vs H1 Q := ⟨B, ts, hH1, r1, WP.mono ht fun t p => p.toF hH x1 k1⟩
                  have qS : m ≠ .f → rN K c (Py.biM b) vs H1 Q := fun mf => ⟨B, ts, hH1, r1, WP.mono ht fun t p => p.toS mf x1⟩
                  rw [G.K]
                  cases b <;> first
                    | (cases hs; done)
                    | exact qF
                    | exact qS fun z => by
                        have := hm z
                        cases this
              | nil => cases h5
              | _ => cases h5
          | some t =>
            rw [hb] at h2
            obtain ⟨h3, h4⟩ := andB h2
            have e0 := of_decide_eq_true h3
            subst e0
            rcases xs with _ | ⟨y, _ | ⟨u, _ | ⟨z, zs⟩⟩⟩
            · cases h4
            · cases h4
            · cases u with
              | Name u q2 =>
                obtain ⟨h5, h6, h7⟩ := andB3 h4
                have e0 := of_decide_eq_true h5
                subst e0
                obtain ⟨u1, u2, u3⟩ := glOk_inv h6
                obtain ⟨T, hT, hn, hd, key⟩ := isi_of hb
                cases es with
                | cons a r =>
                  obtain ⟨h8, h9⟩ := andB (show (chk g sc a y && chkL g sc r []) = true from h7)
                  have pu : PE X (.Name u q2) (tC (.ty T)) := pe_bltn (glo_ok G.sc u1) (by rw [G.mg]; exact F.free u u3) hT rfl hn hd
                  have pa := pa_cons ((hh a r rfl).pe X sc y .w G h8 okW) (pa_cons pu pa_nil rfl) (star_of h8 [.Name u q2] X.env)
                  refine PE.imp (pe_callB call_isi (glo_ok G.sc g1) hmg rfl pa (by decide) (by decide) (star_of h8 _ X.env) rfl) fun σ H Q ⟨B, env, hH, ev, hw⟩ => ?_
                  cases r with
                  | nil =>
                    have hw' : WP (Py.den C a env) fun t => WP (Py.biM b [t]) (Post m K B c H Q) := by
                      have := argsTup_wp hw
                      rw [den_cons_args] at this
                      exact (wp_and.mp this).mono fun t ht => ht
                    refine subW hH ev hw' fun t v H1 ht x1 k1 r1 => ?_
                    obtain ⟨ty, rr, k1', k2, k3⟩ := key K H1 B0 c t v _ r1 ht
                    refine ⟨v, .ty T, ty, .type T, rr, rfl, .ty T, by rw [G.K]; exact k1', by rw [G.K]; exact k2, ?_⟩
                    exact Post.scal (show Post m K B c H Q (.bl rr) from k3) x1 k1 (fun _ => repB) fresh_scalB
                  | cons _ _ => cases h9
                  | _ => cases h9
                | nil => cases h7
                | _ => cases h7
              | _ => cases h4
            · cases u <;> cases h4
        | cons _ _ => cases h
      | _ => cases h
    | _ => cases h
  · cases x with
    | Call fn xs kws p => rfl
    | _ => cases h
end
end Snd

set_option Elab.async false
set_option linter.all false
set_option maxRecDepth 100000
set_option maxHeartbeats 2000000
namespace Snd
open PySem PySem.Spec L2
open PyProof.Rows hiding St

theorem RepW.key {K : PySem.W.Frag} {H : Hp} {B B' : Bn} {c : Addr} {t : Tr} {v : V} (h : Py.keyOk t = true) (r : RepW K H B c t v) : RepW K H B' c t v := by
  rcases key_cases h with ⟨k, rfl⟩ | ⟨ks, rfl⟩
  · have e := weak_kT r
    subst e
    exact Rep.weak (rep_kT.mpr rfl)
  · obtain ⟨a, vs, e, na, ha, l⟩ := wTup (show RepW K H B c (.tup (ks.map kT)) v from r)
    refine Rep.weak (t := kTs ks) ?_
    show Rep K H B' c (.tup (ks.map kT)) v
    simp only [Rep]
    have e2 := repL_kT l
    subst e2
    exact ⟨a, _, e, na, ha, by
      clear l ha r h
      induction ks with
      | nil => exact RepL.nil
      | cons k ks ih => exact RepL.cons (rep_kT.mpr rfl) ih⟩
theorem idxM_key {t u : Tr} {R : Tr → Prop} (h : WP (Py.idxM t u) R) : Py.keyOk u = true := by
  cases t with
  | tup xs => cases u with
    | int k => rfl
    | _ => exact False.elim h
  | lst xs => cases u with
    | int k => rfl
    | _ => exact False.elim h
  | dct kvs =>
    simp only [Py.idxM] at h
    cases fit : Py.fits kvs u with
    | false => rw [fit] at h; exact h.elim
    | true => exact (fits_inv fit).1
  | _ => exact False.elim h
section
variable {X : L2.Cx} {c : Addr}
theorem isD_of {K : PySem.W.Frag} {H : Hp} {B : Bn} {kvs : List (Tr × Tr)} {x : V} (r : RepW K H B c (.dct kvs) x) : ∃ a, x = .ref a ∧ IsD H a := by
  obtain ⟨a, vs, rfl, _, _, hd⟩ := r
  rcases hd with ⟨ks, _, _, rd⟩ | ⟨ks, _, _, rd⟩
  · exact ⟨a, rfl, .inl ⟨_, rd.rd⟩⟩
  · exact ⟨a, rfl, .inr ⟨_, rd.rd⟩⟩
def tG1 (K : PySem.W.Frag) (c : Addr) (td ty : TE) : TE := fun σ H Q => td σ H fun x H1 => (∃ B kvs, RepW K H1 B c (.dct kvs) x) ∧ ty σ H1 fun y H2 => ∃ B kvs k, Here B c H2 ∧ RepW K H2 B c (.dct kvs) x ∧ RepW K H2 B c k y ∧ Py.fits kvs k = true ∧ Aft K B c H2 Q ((Py.dget kvs k).getD .non)
theorem pe_get1T {o e : Expr} {td ty : TE} {apos cpos : Pos} (hu : X.A.units + 1 < cLine) (ho : PE X o td) (he : PE X e ty) (m : M1 X o "get" apos e cpos) : PE X (.Call (.Attribute o "get" apos) [e] [] cpos) (tG1 X.K c td ty) := by
  refine ⟨fun pins s σ H Q I h => ?_⟩
  refine wpAny_Call_method m.base m.few m.line PySem.F.plainAttrs_dict PySem.F.slot_dict_get PySem.F.type_dict_get (thn (ho.run pins s σ H _ I h) fun u s1 ⟨x, H1, I1, rx, ⟨B, kvs, rd⟩, q1⟩ => ?_)
  obtain ⟨a, ex, d⟩ := isD_of rd
  subst ex
  obtain rfl : u = Value.ref a := rx
  obtain ⟨t1, t2, _⟩ := isD_at I1 d
  refine ⟨t1, t2, ?_⟩
  rw [m.trees]
  refine Calls.callWith_builtin rfl (Calls.evalArgs_plain (Calls.spliced_cons (thn (he.run pins s1 σ H1 _ I1 q1) fun iv s2 ⟨y, H2, I2, ry, B2, kvs2, k, hH, rd2, rk, fit, q2⟩ => Calls.spliced_nil ?_)))
  obtain ⟨a', H', ea, I', ⟨ov, dg, ro⟩, back⟩ := dict_at I2 rd2 rk fit
  cases ea
  refine d_get1 hu I' dg ry fun w' s3 I3 rw' => ⟨_, H2, back s3 I3, rw', ?_⟩
  cases g : Py.dget kvs2 k with
  | none =>
    rw [g] at ro q2
    cases ov with
    | none => exact q2.same hH repN
    | some _ => exact ro.elim
  | some z =>
    rw [g] at ro q2
    cases ov with
    | none => exact ro.elim
    | some _ => exact q2.same hH ro
def tG2 (K : PySem.W.Frag) (c : Addr) (td ty tx : TE) : TE := fun σ H Q => td σ H fun x H1 => (∃ B kvs, RepW K H1 B c (.dct kvs) x) ∧ ty σ H1 fun y H2 => tx σ H2 fun z H3 => ∃ B kvs k d, Here B c H3 ∧ RepW K H3 B c (.dct kvs) x ∧ RepW K H3 B c k y ∧ Rep K H3 B c d z ∧ Py.fits kvs k = true ∧ Aft K B c H3 Q ((Py.dget kvs k).getD d)
theorem pe_get2T {o e f : Expr} {td ty tx : TE} {apos cpos : Pos} (hu : X.A.units + 1 < cLine) (ho : PE X o td) (he : PE X e ty) (hf : PE X f tx) (m : M2 X o "get" apos e f cpos) : PE X (.Call (.Attribute o "get" apos) [e, f] [] cpos) (tG2 X.K c td ty tx) := by
  refine ⟨fun pins s σ H Q I h => ?_⟩
  refine wpAny_Call_method m.base m.few m.line PySem.F.plainAttrs_dict PySem.F.slot_dict_get PySem.F.type_dict_get (thn (ho.run pins s σ H _ I h) fun u s1 ⟨x, H1, I1, rx, ⟨B, kvs, rd⟩, q1⟩ => ?_)
  obtain ⟨a, ex, d⟩ := isD_of rd
  subst ex
  obtain rfl : u = Value.ref a := rx
  obtain ⟨t1, t2, _⟩ := isD_at I1 d
  refine ⟨t1, t2, ?_⟩
  rw [m.trees]
  refine Calls.callWith_builtin rfl (Calls.evalArgs_plain (Calls.spliced_cons (thn (he.run pins s1 σ H1 _ I1 q1) fun iv s2 ⟨y, H2, I2, ry, q2⟩ =>
    Calls.spliced_cons (thn (hf.run pins s2 σ H2 _ I2 q2) fun fv s3 ⟨z, H3, I3, rz, B2, kvs2, k, dd, hH, rd2, rk, rdd, fit, q3⟩ => Calls.spliced_nil ?_))))
  obtain ⟨a', H', ea, I', ⟨ov, dg, ro⟩, back⟩ := dict_at I3 rd2 rk fit
  cases ea
  refine d_get2 hu I' dg ry rz fun w' s4 I4 rw' => ⟨_, H3, back s4 I4, rw', ?_⟩
  cases g : Py.dget kvs2 k with
  | none =>
    rw [g] at ro q3
    cases ov with
    | none => exact q3.same hH rdd
    | some _ => exact ro.elim
  | some z =>
    rw [g] at ro q3
    cases ov with
    | none => exact ro.elim
    | some _ => exact q3.same hH ro
end
section
variable {C : Py.Cx} {P : Program} {w : World} {K : PySem.W.Frag} {mg : Str → Option Value} {base : Heap} {g : Gx} {lv : Nat} {c : Addr}
theorem notF {m : Md} {e : Py.E} (hm : okM m e) (he : fresh e = false) : m ≠ .f := fun z => by
  have := hm z
  rw [he] at this
  cases this
theorem snd_idx {a b : Py.E} (ha : SN C P w K mg base g lv c a) (hb : SN C P w K mg base g lv c b) : SndE C P w K mg base g lv c (.idx a b) := by
  refine snd_val (fun X sc x m G h hm => ?_) (fun X sc x h whole => ?_) (fun _ _ => rfl)
  · cases x with
    | Subscript x y p =>
      have h' : (chk g sc a x && chk g sc b y) = true := by
        cases y <;> first
          | exact h
          | (exfalso; revert h; show chk g sc (.idx a b) _ = true → False; intro h; have := (andB (show (chk g sc a x && chk g sc b _) = true from h)).2; rw [chk_noSlice] at this; cases this)
      obtain ⟨h1, h2⟩ := andB h'
      refine PE.imp (pe_ix (ix_T (c := c) G.roomy) (ha.pe X sc x .w G h1 okW) (hb.pe X sc y .w G h2 okW) (plainIx_of h2)) fun σ H Q ⟨B, env, hH, ev, hw⟩ => ?_
      refine subB hH ev (fun i q => by simp [esc, q]) (wp_and.mp hw) fun t v H1 ht x1 k1 r1 => ?_
      have hH1 := hH.ext x1 k1
      refine subW hH1 (ev.ext x1) (wp_and.mp ht) fun u v2 H2 hu x2 k2 r2 => ?_
      rw [G.K]
      exact ⟨B, t, u, hH1.ext x2 k2, r1.ext x2, r2.key (idxM_key hu), WP.mono hu fun t p => p.toS (notF hm rfl) (x1.trans x2)⟩
    | _ => cases h
  · cases x with
    | Subscript x y p => rfl
    | _ => cases h
theorem parts_of {sc : Scope} {l : Option Expr} {lo : Py.E} {X : L2.Cx} (hl : SN C P w K mg base g lv c lo) (G : Good P w K mg base g lv X sc) (h : partB (chk g sc lo) l lo = true) :
    ∃ tl, PO X l tl ∧ ∀ (B : Bn) (es : Nat → Bool) (env : Py.Env) (σ : L2.St) (H : Hp) (R : Option Int → Prop) (Q : Option Int → Hp → Prop), Here B c H → Ev K c es B σ H env → WP (Py.partM (Py.isNonE lo) (Py.den C lo env)) R → (∀ o H1, R o → Ext c H H1 → CupOk H1 c → Q o H1) → tl σ H Q := by
  cases l with
  | none =>
    refine ⟨_, po_none, fun B es env σ H R Q hH ev hw k => ?_⟩
    have e : Py.isNonE lo = true := h
    rw [e] at hw
    exact k none H hw (Ext.refl c H) hH.cup
  | some x =>
    obtain ⟨h0, h⟩ := andB (show (!Py.isNonE lo && chk g sc lo x) = true from h)
    refine ⟨_, po_some (hl.pe X sc x .w G h okW), fun B es env σ H R Q hH ev hw k => ?_⟩
    rw [notB h0] at hw
    refine subW hH ev (wp_and.mp (show WP ((Py.den C lo env).bind fun t => (Py.asI t).bind fun i => .ret (some i)) R from hw)) fun t v H1 ht x1 k1 r1 => ?_
    obtain ⟨i, rfl, q⟩ := asI_wp (wp_and.mp ht)
    have e := wInt r1; subst e
    exact ⟨i, rfl, k (some i) H1 q x1 k1⟩
theorem snd_slc {a lo hi : Py.E} (ha : SN C P w K mg base g lv c a) (hl : SN C P w K mg base g lv c lo) (hh : SN C P w K mg base g lv c hi) : SndE C P w K mg base g lv c (.slc a lo hi) := by
  refine snd_val (fun X sc x m G h hm => ?_) (fun X sc x h whole => ?_) (fun _ _ => rfl)
  · cases x with
    | Subscript x y p =>
      cases y with
      | Slice l hh' st p2 =>
        cases st with
        | none =>
          obtain ⟨h1, h2, h3⟩ := andB3 (show (chk g sc a x && partB (chk g sc lo) l lo && partB (chk g sc hi) hh' hi) = true from h)
          obtain ⟨tl, pl, kl⟩ := parts_of hl G h2
          obtain ⟨th, ph, kh⟩ := parts_of hh G h3
          refine PE.imp (pe_slice (sl_T (c := c)) (ha.pe X sc x .w G h1 okW) pl ph) fun σ H Q ⟨B, env, hH, ev, hw⟩ => ?_
          refine subB hH ev (fun i q => by simp [esc, q]) (wp_and.mp hw) fun t v H1 ht x1 k1 r1 => ?_
          have hH1 := hH.ext x1 k1
          refine kl B _ env σ H1 _ _ hH1 (ev.ext x1) (wp_and.mp ht) fun l' H2 hl2 x2 k2 => ?_
          refine kh B _ env σ H2 _ _ (hH1.ext x2 k2) ((ev.ext x1).ext x2) (wp_and.mp hl2) fun h' H3 hh3 x3 k3 => ?_
          rw [G.K]
          exact ⟨B, t, (hH1.ext x2 k2).ext x3 k3, (r1.ext x2).ext x3, WP.mono hh3 fun t p => p.toF hH ((x1.trans x2).trans x3) k3⟩
        | some _ => cases h
      | _ => cases h
    | _ => cases h
  · cases x with
    | Subscript x y p => rfl
    | _ => cases h
theorem snd_rev {a : Py.E} (ha : SN C P w K mg base g lv c a) : SndE C P w K mg base g lv c (.rev a) := by
  refine snd_val (fun X sc x m G h hm => ?_) (fun X sc x h whole => ?_) (fun _ _ => rfl)
  · cases x with
    | Subscript x y p =>
      unfold chk at h
      split at h
      · rename_i x' j k p1 p2 p3 p4 heq
        cases heq
        obtain ⟨h1, h2⟩ := andB h
        have e := of_decide_eq_true h1
        subst e
        refine PE.imp (pe_rev (c := c) (ha.pe X sc x .w G h2 okW)) fun σ H Q ⟨B, env, hH, ev, hw⟩ => ?_
        refine subB hH ev (fun i q => by simp [esc, q]) (wp_and.mp hw) fun t v H1 ht x1 k1 r1 => ?_
        rw [G.K]
        exact ⟨B, t, hH.ext x1 k1, r1, WP.mono ht fun t p => p.toF hH x1 k1⟩
      · cases h
    | _ => cases h
  · cases x with
    | Subscript x y p => rfl
    | _ => cases h
theorem snd_sset (F : Facts C P w K mg base g lv c) {a : Py.E} (ha : SN C P w K mg base g lv c a) : SndE C P w K mg base g lv c (.sset a) := by
  refine snd_val (fun X sc x m G h hm => ?_) (fun X sc x h whole => ?_) (fun _ _ => rfl)
  · unfold chk at h
    split at h
    · rename_i x1 q1 y1 q2 z q3 q4
      obtain ⟨h0, h4, h5⟩ := andB3 h
      obtain ⟨h1, h2, h3⟩ := andB3 h0
      have e1 := of_decide_eq_true h1
      have e2 := of_decide_eq_true h2
      subst e1; subst e2
      obtain ⟨g1, _, g3⟩ := glOk_inv h3
      obtain ⟨f1, _, f3⟩ := glOk_inv h4
      refine PE.imp (pe_sset (c := c) G.calm (glo_ok G.sc g1) (by rw [G.mg]; exact F.free _ g3) (glo_ok G.sc f1) (by rw [G.mg]; exact F.free _ f3) (ha.pe X sc z .w G h5 okW) (star_of h5 [] X.env)) fun σ H Q ⟨B, env, hH, ev, hw⟩ => ?_
      refine subB hH ev (fun i q => by simp [esc, q]) (wp_and.mp hw) fun t v H1 ht x1 k1 r1 => ?_
      rw [G.K]
      cases t with
      | lst xs =>
        cases e : Py.allI xs with
        | none =>
          have ht : WP (match Py.allI xs with | some zs => if zs.length ≤ 1000 ∧ (Py.sortU zs).length < 64 then Py.M.ret (Py.T.lst ((Py.sortU zs).map .int)) else .stuck | none => .stuck) _ := ht
          rw [e] at ht
          exact False.elim ht
        | some zs =>
          have ht : WP (match Py.allI xs with | some zs => if zs.length ≤ 1000 ∧ (Py.sortU zs).length < 64 then Py.M.ret (Py.T.lst ((Py.sortU zs).map .int)) else .stuck | none => .stuck) _ := ht
          rw [e] at ht
          have ht : WP (if zs.length ≤ 1000 ∧ (Py.sortU zs).length < 64 then Py.M.ret (Py.T.lst ((Py.sortU zs).map .int)) else .stuck) (Post m K B c H Q) := ht
          by_cases l : zs.length ≤ 1000 ∧ (Py.sortU zs).length < 64
          · rw [if_pos l] at ht
            exact ⟨B, xs, zs, hH.ext x1 k1, r1, e, l.1, l.2, fun H2 x2 k2 => Post.toF ht hH (x1.trans x2) k2⟩
          · rw [if_neg l] at ht
            exact False.elim ht
      | _ => exact False.elim ht
    · cases h
  · unfold chk at h
    split at h
    · rfl
    · cases h
theorem get1_inv {t u : Tr} {R : Tr → Prop} (h : WP (Py.get1M t u) R) : ∃ kvs, t = .dct kvs ∧ Py.fits kvs u = true ∧ R ((Py.dget kvs u).getD .non) := by
  cases t with
  | dct kvs =>
    simp only [Py.get1M] at h
    rcases wp_ite h with ⟨f, h⟩ | ⟨_, h⟩
    · exact ⟨kvs, rfl, f, h⟩
    · exact h.elim
  | _ => exact False.elim h
theorem get2_inv {t u d : Tr} {R : Tr → Prop} (h : WP (Py.get2M t u d) R) : ∃ kvs, t = .dct kvs ∧ Py.fits kvs u = true ∧ R ((Py.dget kvs u).getD d) := by
  cases t with
  | dct kvs =>
    simp only [Py.get2M] at h
    rcases wp_ite h with ⟨f, h⟩ | ⟨_, h⟩
    · exact ⟨kvs, rfl, f, h⟩
    · exact h.elim
  | _ => exact False.elim h
theorem isDct {t : Tr} : (∃ kvs, t = .dct kvs) ∨ ∀ kvs, t ≠ .dct kvs := by
  cases t with
  | dct kvs => exact .inl ⟨kvs, rfl⟩
  | _ => exact .inr (by intro _ z; cases z)
theorem snd_get1 {a k : Py.E} (ha : SN C P w K mg base g lv c a) (hk : SN C P w K mg base g lv c k) : SndE C P w K mg base g lv c (.get1 a k) := by
  refine snd_val (fun X sc x m G h hm => ?_) (fun X sc x h whole => ?_) (fun _ _ => rfl)
  · unfold chk at h
    split at h
    · rename_i x m' ap y cp
      obtain ⟨h0, h4, h5⟩ := andB3 h
      obtain ⟨h1, h2, h3⟩ := andB3 h0
      have e := of_decide_eq_true h1
      subst e
      have M : M1 X x "get" ap y cp := ⟨base_ok h3 _ _ _, by rw [star_of h5 [] X.env]; rfl, by simpa using h2, by rw [star_of h5 [] X.env]; rfl⟩
      have hu : X.A.units + 1 < cLine := by have := G.roomy; unfold Roomy at this; omega
      refine PE.imp (pe_get1T (c := c) hu (ha.pe X sc x .w G h4 okW) (hk.pe X sc y .w G h5 okW) M) fun σ H Q ⟨B, env, hH, ev, hw⟩ => ?_
      refine subB hH ev (fun i q => by simp [esc, q]) (wp_and.mp hw) fun t v H1 ht x1 k1 r1 => ?_
      have hH1 := hH.ext x1 k1
      have ht := wp_and.mp ht
      rcases isDct (t := t) with ⟨kvs, rfl⟩ | nd
      · refine ⟨⟨B, kvs, by rw [G.K]; exact r1⟩, ?_⟩
        refine subW hH1 (ev.ext x1) ht fun u v2 H2 hu x2 k2 r2 => ?_
        obtain ⟨kvs', e, fit, q⟩ := get1_inv hu
        cases e
        rw [G.K]
        exact ⟨B, kvs, u, hH1.ext x2 k2, r1.ext x2, r2.key (fits_inv fit).1, fit, (show Post m K B c H Q _ from q).toS (notF hm rfl) (x1.trans x2)⟩
      · exfalso
        refine wp_false (ht.mono fun u hu => ?_)
        obtain ⟨kvs', e, _⟩ := get1_inv hu
        exact nd _ e
    · cases h
  · unfold chk at h
    split at h
    · rfl
    · cases h
theorem snd_get2 {a k d : Py.E} (ha : SN C P w K mg base g lv c a) (hk : SN C P w K mg base g lv c k) (hd : SN C P w K mg base g lv c d) : SndE C P w K mg base g lv c (.get2 a k d) := by
  refine snd_val (fun X sc x m G h hm => ?_) (fun X sc x h whole => ?_) (fun _ _ => rfl)
  · unfold chk at h
    split at h
    · rename_i x m' ap y z cp
      obtain ⟨h0, h5, h6⟩ := andB3 h
      obtain ⟨h1, h2, h3, h4⟩ := andB4 h0
      have e := of_decide_eq_true h1
      subst e
      have M : M2 X x "get" ap y z cp := ⟨base_ok h3 _ _ _, by rw [star_of h5 [z] X.env, star_of h6 [] X.env]; rfl, by simpa using h2, by rw [star_of h5 [z] X.env, star_of h6 [] X.env]; rfl⟩
      have hu : X.A.units + 1 < cLine := by have := G.roomy; unfold Roomy at this; omega
      refine PE.imp (pe_get2T (c := c) hu (ha.pe X sc x .w G h4 okW) (hk.pe X sc y .w G h5 okW) (hd.pe X sc z .s G h6 (fun z => nomatch z)) M) fun σ H Q ⟨B, env, hH, ev, hw⟩ => ?_
      refine subB hH ev (fun i q => by simp [esc, q]) (wp_and.mp hw) fun t v H1 ht x1 k1 r1 => ?_
      have hH1 := hH.ext x1 k1
      have ht := wp_and.mp ht
      rcases isDct (t := t) with ⟨kvs, rfl⟩ | nd
      · refine ⟨⟨B, kvs, by rw [G.K]; exact r1⟩, ?_⟩
        refine subW hH1 (ev.ext x1) ht fun u v2 H2 hu x2 k2 r2 => ?_
        have hH2 := hH1.ext x2 k2
        refine ⟨B, env, hH2, ((ev.ext x1).ext x2).mono (fun i q => by simp [esc, isW] at q ⊢; exact .inr q), (wp_and.mp hu).mono fun z' hz v3 H3 x3 k3 r3 => ?_⟩
        obtain ⟨kvs', e, fit, q⟩ := get2_inv hz
        cases e
        rw [G.K]
        exact ⟨B, kvs, u, z', hH2.ext x3 k3, (r1.ext x2).ext x3, (r2.key (fits_inv fit).1).ext x3, r3, fit, (show Post m K B c H Q _ from q).toS (notF hm rfl) ((x1.trans x2).trans x3)⟩
      · exfalso
        refine wp_false (ht.mono fun u hu => wp_false ((wp_and.mp hu).mono fun z' hz => ?_))
        obtain ⟨kvs', e, _⟩ := get2_inv hz
        exact nd _ e
    · cases h
  · unfold chk at h
    split at h
    · rfl
    · cases h
theorem allI_case {xs : List Tr} {R : Tr → Prop} {f : List Int → Py.M Tr} (h : WP (match Py.allI xs with | some zs => f zs | none => .stuck) R) : ∃ zs, Py.allI xs = some zs ∧ WP (f zs) R := by
  cases e : Py.allI xs with
  | none => rw [e] at h; exact False.elim h
  | some zs => rw [e] at h; exact ⟨zs, rfl, h⟩
theorem snd_slen (F : Facts C P w K mg base g lv c) {a : Py.E} (ha : SN C P w K mg base g lv c a) : SndE C P w K mg base g lv c (.slen a) := by
  refine snd_val (fun X sc x m G h hm => ?_) (fun X sc x h whole => ?_) (fun _ _ => rfl)
  · unfold chk at h
    split at h
    · rename_i x1 q1 y1 q2 z q3 q4
      obtain ⟨h0, h4, h5⟩ := andB3 h
      obtain ⟨h1, h2, h3⟩ := andB3 h0
      have e1 := of_decide_eq_true h1
      have e2 := of_decide_eq_true h2
      subst e1; subst e2
      obtain ⟨g1, _, g3⟩ := glOk_inv h3
      obtain ⟨f1, _, f3⟩ := glOk_inv h4
      refine PE.imp (pe_slen (c := c) G.calm (glo_ok G.sc g1) (by rw [G.mg]; exact F.free _ g3) (glo_ok G.sc f1) (by rw [G.mg]; exact F.free _ f3) (ha.pe X sc z .w G h5 okW) (star_of h5 [] X.env)) fun σ H Q ⟨B, env, hH, ev, hw⟩ => ?_
      refine subW hH ev (wp_and.mp hw) fun t v H1 ht x1 k1 r1 => ?_
      rw [G.K]
      have key : ∀ xs : List Tr, WP (match Py.allI xs with | some zs => if zs.length ≤ 1000 then Py.M.ret (Py.T.int ((Py.sortU zs).length : Nat)) else .stuck | none => .stuck) (Post m K B c H Q) → ∃ zs, Py.allI xs = some zs ∧ zs.length ≤ 1000 ∧ Q (.int ((Py.sortU zs).length : Nat)) H1 := fun xs hx => by
        obtain ⟨zs, e, hx⟩ := allI_case hx
        obtain ⟨l, hx⟩ := wp_ifs hx
        exact ⟨zs, e, l, Post.scal (show Post m K B c H Q (.int ((Py.sortU zs).length : Nat)) from hx) x1 k1 (fun _ => repI) fresh_scalI⟩
      cases t with
      | lst xs =>
        obtain ⟨zs, e, l, q⟩ := key xs ht
        exact ⟨B0, _, xs, zs, r1, .inl rfl, e, l, q⟩
      | tup xs =>
        obtain ⟨zs, e, l, q⟩ := key xs ht
        exact ⟨B0, _, xs, zs, r1, .inr rfl, e, l, q⟩
      | _ => exact False.elim ht
    · cases h
  · unfold chk at h
    split at h
    · rfl
    · cases h
theorem rngdM_wp {a b : Int} {R : Tr → Prop} (h : WP (Py.rngdM a b) R) : -(2 ^ 62) ≤ a ∧ a < 2 ^ 62 ∧ -(2 ^ 62) ≤ b ∧ b < 2 ^ 62 ∧ (a - b).toNat ≤ 2 ^ 24 ∧ R (.tup ((List.range (a - b).toNat).map fun i => .int (a - (i : Nat)))) := by
  unfold Py.rngdM at h
  obtain ⟨e, h⟩ := wp_ifs h
  simp only [Bool.and_eq_true, decide_eq_true_eq, Py.rngOk] at e
  refine ⟨?_, ?_, ?_, ?_, ?_, h⟩
  · have := e.1.1.1; omega
  · have := e.1.1.2; omega
  · have := e.1.2.1; omega
  · have := e.1.2.2; omega
  · have := e.2
    unfold Py.lim at this
    omega
theorem rd_rep {B : Bn} {H : Hp} (a b : Int) : RepL K H B c ((List.range (a - b).toNat).map fun i => Py.T.int (a - (i : Nat))) (rdV a b) := by
  unfold rdV
  generalize List.range (a - b).toNat = l
  induction l with
  | nil => exact RepL.nil
  | cons x l ih => exact RepL.cons repI ih
theorem snd_rngd (F : Facts C P w K mg base g lv c) {a b : Py.E} (ha : SN C P w K mg base g lv c a) (hb : SN C P w K mg base g lv c b) : SndE C P w K mg base g lv c (.rngd a b) := by
  refine snd_val (fun X sc x m G h hm => ?_) (fun X sc x h whole => ?_) (fun _ _ => rfl)
  · unfold chk at h
    split at h
    · rename_i x1 q1 y1 q2 z u j kk q3 q4 q5 q6
      obtain ⟨h0, h6, h7⟩ := andB3 h
      obtain ⟨h0, h4, h5⟩ := andB3 h0
      obtain ⟨h1, h2, h3⟩ := andB3 h0
      have e1 := of_decide_eq_true h1
      have e2 := of_decide_eq_true h2
      have e3 := of_decide_eq_true h3
      subst e1; subst e2; subst e3
      obtain ⟨g1, _, g3⟩ := glOk_inv h4
      obtain ⟨f1, _, f3⟩ := glOk_inv h5
      have sd : starEach [(.UnaryOp .USub (.Constant (.int 1) kk q3) q4 : Expr)] X.env = (false, eval (.UnaryOp .USub (.Constant (.int 1) kk q3) q4) X.env) :: starEach [] X.env := rfl
      refine PE.imp (pe_rngd G.calm (glo_ok G.sc g1) (by rw [G.mg]; exact F.free _ g3) (glo_ok G.sc f1) (by rw [G.mg]; exact F.free _ f3) (pa_cons (ha.pe X sc z .w G h6 okW) (pa_cons (hb.pe X sc u .w G h7 okW) (pa_cons (pe_un un_neg pe_int) pa_nil sd) (star_of h7 _ X.env)) (star_of h6 _ X.env)) (star_of h6 _ X.env) (by rw [star_of h7 _ X.env, sd]; rfl)) fun σ H Q ⟨B, env, hH, ev, hw⟩ => ?_
      refine subW hH ev (wp_and.mp hw) fun t v H1 ht x1 k1 r1 => ?_
      have hH1 := hH.ext x1 k1
      refine subW hH1 (ev.ext x1) (wp_and.mp ht) fun t2 v2 H2 ht2 x2 k2 r2 => ?_
      obtain ⟨i, ei, ht3⟩ := asI_wp (wp_and.mp ht2)
      obtain ⟨k, ek, ht4⟩ := asI_wp (wp_and.mp ht3)
      rw [ei] at r1
      rw [ek] at r2
      have e4 := wInt r1; subst e4
      have e5 := wInt r2; subst e5
      obtain ⟨b1, b2, b3, b4, b5, q⟩ := rngdM_wp ht4
      exact ⟨1, rfl, i, k, rfl, b1, b2, b3, b4, b5, fun q' hq => ((show Post m K B c H Q _ from q).toF hH (x1.trans x2) k2).newT (hH1.ext x2 k2) hq (rd_rep _ _)⟩
    · cases h
  · unfold chk at h
    split at h
    · rfl
    · cases h
theorem index_inv {t u : Tr} {R : Tr → Prop} (h : WP (Py.indexM t u) R) : ∃ (zs : List Int) (k : Int) (n : Nat), t = .lst (zs.map .int) ∧ u = .int k ∧ Py.firstI k zs = some n ∧ R (.int (n : Nat)) := by
  cases t with
  | lst xs => cases u with
    | int k =>
      obtain ⟨zs, e, h'⟩ := allI_case (f := fun zs => match Py.firstI k zs with | some n => .ret (.int (n : Nat)) | none => .stuck) h
      have e2 := allI_of e
      cases q : Py.firstI k zs with
      | none => rw [q] at h'; exact False.elim h'
      | some n => rw [q] at h'; exact ⟨zs, k, n, by rw [e2], rfl, q, h'⟩
    | _ => exact False.elim h
  | _ => exact False.elim h
theorem count_inv {t u : Tr} {R : Tr → Prop} (h : WP (Py.countM t u) R) : ∃ (zs : List Int) (k : Int), t = .lst (zs.map .int) ∧ u = .int k ∧ R (.int (zs.count k : Nat)) := by
  cases t with
  | lst xs => cases u with
    | int k =>
      obtain ⟨zs, e, h'⟩ := allI_case (f := fun zs => .ret (.int (zs.count k : Nat))) h
      have e2 := allI_of e
      exact ⟨zs, k, by rw [e2], rfl, h'⟩
    | _ => exact False.elim h
  | _ => exact False.elim h
theorem isLst {t : Tr} : (∃ xs, t = .lst xs) ∨ ∀ xs, t ≠ .lst xs := by
  cases t with
  | lst xs => exact .inl ⟨xs, rfl⟩
  | _ => exact .inr (by intro _ z; cases z)
theorem flat_ints (zs : List Int) : (zs.map V.int).all flatV = true := List.all_eq_true.mpr fun v hv => by
  obtain ⟨z, _, rfl⟩ := List.mem_map.mp hv
  rfl
theorem snd_index {a k : Py.E} (ha : SN C P w K mg base g lv c a) (hk : SN C P w K mg base g lv c k) : SndE C P w K mg base g lv c (.index a k) := by
  refine snd_val (fun X sc x m G h hm => ?_) (fun X sc x h whole => ?_) (fun _ _ => rfl)
  · unfold chk at h
    split at h
    · rename_i x m' ap y cp
      obtain ⟨h0, h4, h5⟩ := andB3 h
      obtain ⟨h1, h2, h3⟩ := andB3 h0
      have e := of_decide_eq_true h1
      subst e
      refine PE.imp (pe_bm PySem.F.plainAttrs_list PySem.F.slot_list_index PySem.F.type_list_index mt_index (ha.pe X sc x .w G h4 okW) (pa_cons (hk.pe X sc y .w G h5 okW) pa_nil (star_of h5 [] X.env)) (base_ok h3 _ _ _) (by rw [star_of h5 [] X.env]; rfl) (by simpa using h2) (star_of h5 [] X.env) rfl) fun σ H Q ⟨B, env, hH, ev, hw⟩ => ?_
      refine subW hH ev (wp_and.mp hw) fun t v H1 ht x1 k1 r1 => ?_
      have hH1 := hH.ext x1 k1
      have ht := wp_and.mp ht
      rcases isLst (t := t) with ⟨xs, rfl⟩ | nd
      · obtain ⟨l, vs, rfl, nl, hl, lr⟩ := wLst r1
        rw [G.K]
        refine ⟨.inl ⟨rfl, vs, SqL.of hl⟩, ?_⟩
        refine subW hH1 (ev.ext x1) ht fun u v2 H2 hu x2 k2 r2 => ?_
        obtain ⟨zs, kk, n, e, rfl, f, q⟩ := index_inv hu
        cases e
        have e2 := repL_ints_inv lr
        subst e2
        have e3 := wInt r2; subst e3
        obtain ⟨f1, f2⟩ := firstI_spec f
        refine ⟨l, _, .int kk, n, .int kk, rfl, rfl, SqL.of (x2 l _ hl nl), rfl, flat_ints zs, by rw [List.getElem?_map, f1]; rfl, by show (kk == kk) = true; simp, fun mm z hm' hz => ?_, Post.scal (show Post m K B c H Q (.int (n : Nat)) from q) (x1.trans x2) k2 (fun _ => repI) fresh_scalI⟩
        rw [List.getElem?_map] at hz
        cases q2 : zs[mm]? with
        | none => rw [q2] at hz; cases hz
        | some z2 =>
          rw [q2] at hz
          cases hz
          have := f2 mm z2 hm' q2
          show (z2 == kk) = false
          simpa using this
      · exfalso
        refine wp_false (ht.mono fun u hu => ?_)
        obtain ⟨zs, kk, n, e, _⟩ := index_inv hu
        exact nd _ e
    · cases h
  · unfold chk at h
    split at h
    · rfl
    · cases h
theorem snd_count {a k : Py.E} (ha : SN C P w K mg base g lv c a) (hk : SN C P w K mg base g lv c k) : SndE C P w K mg base g lv c (.count a k) := by
  refine snd_val (fun X sc x m G h hm => ?_) (fun X sc x h whole => ?_) (fun _ _ => rfl)
  · unfold chk at h
    split at h
    · rename_i x m' ap y cp
      obtain ⟨h0, h4, h5⟩ := andB3 h
      obtain ⟨h1, h2, h3⟩ := andB3 h0
      have e := of_decide_eq_true h1
      subst e
      refine PE.imp (pe_bm PySem.F.plainAttrs_list PySem.F.slot_list_count PySem.F.type_list_count mt_lcount (ha.pe X sc x .w G h4 okW) (pa_cons (hk.pe X sc y .w G h5 okW) pa_nil (star_of h5 [] X.env)) (base_ok h3 _ _ _) (by rw [star_of h5 [] X.env]; rfl) (by simpa using h2) (star_of h5 [] X.env) rfl) fun σ H Q ⟨B, env, hH, ev, hw⟩ => ?_
      refine subW hH ev (wp_and.mp hw) fun t v H1 ht x1 k1 r1 => ?_
      have hH1 := hH.ext x1 k1
      have ht := wp_and.mp ht
      rcases isLst (t := t) with ⟨xs, rfl⟩ | nd
      · obtain ⟨l, vs, rfl, nl, hl, lr⟩ := wLst r1
        rw [G.K]
        refine ⟨.inl ⟨rfl, vs, SqL.of hl⟩, ?_⟩
        refine subW hH1 (ev.ext x1) ht fun u v2 H2 hu x2 k2 r2 => ?_
        obtain ⟨zs, kk, e, rfl, q⟩ := count_inv hu
        cases e
        have e2 := repL_ints_inv lr
        subst e2
        have e3 := wInt r2; subst e3
        exact ⟨l, zs, kk, rfl, rfl, SqL.of (x2 l _ hl nl), Post.scal (show Post m K B c H Q (.int (zs.count kk : Nat)) from q) (x1.trans x2) k2 (fun _ => repI) fresh_scalI⟩
      · exfalso
        refine wp_false (ht.mono fun u hu => ?_)
        obtain ⟨zs, kk, e, _⟩ := count_inv hu
        exact nd _ e
    · cases h
  · unfold chk at h
    split at h
    · rfl
    · cases h
end
end Snd

set_option Elab.async false
set_option linter.all false
set_option maxRecDepth 100000
set_option maxHeartbeats 2000000
namespace PySem
open Sem (wp)
open AutoSeq1 (wpAny_loadPart')
/-- enumerate over a tuple -/
theorem meets_enumerate_newT (l : Addr) (items : Array Value) (n : Nat) (dct : Option Addr) (sl : Array (Option Value)) :
    Meets (Builtin.«enumerate.__new__» ⟨[.type "enumerate", .ref l], []⟩) (fun _ R s => s.heap.get? l = some { cls := .type "tuple", dict := dct, data := .seq items n, slots := sl } ∧
      R (.ok (.ret (.ref (s.heap.push { cls := .type "tuple_iterator", data := .fields #[.ref l, .int 0 0] }).objs.size)))
        { s with heap := (s.heap.push { cls := .type "tuple_iterator", data := .fields #[.ref l, .int 0 0] }).push { cls := .type "enumerate", data := .fields #[.none, .bool false, .ref s.heap.objs.size, rawInt 0, .none, .none] } }) :=
  .of_wp fun prog w A R s ⟨hl, h⟩ => by
    obtain ⟨hp, g, d, tk, os⟩ := s
    have hsub := sub_enumerate
    have hL : Heap.IsTuple (Shared.heap ⟨hp, g, d, tk, os⟩) l items := ⟨_, hl, rfl, n, rfl⟩
    wp_walk using wpAny_loadPart' hl
    refine wpAny_stack_any fun st => wpAny_pure ?_
    split
    · rename_i c _ _ _ _ _
      cases (c == Value.type "enumerate") <;>
      · wp_walk using wpAny_loadPart' hl, wpAny_pyIter_tuple hL
        exact ⟨_, rfl, h⟩
    · wp_walk using wpAny_loadPart' hl, wpAny_pyIter_tuple hL
      exact ⟨_, rfl, h⟩
section
variable {prog : Program} {w : World} {A : Around} {E : Value → Shared → Prop} {s : Shared}
theorem call_enumerate_tuple {l : Addr} {items : Array Value} {Q : Value → Shared → Prop} (hL : s.heap.IsTuple l items)
    (h : ∀ h', IsEnum h' (s.heap.objs.size + 1) s.heap.objs.size 0 .none → h'.IsTupleIter s.heap.objs.size l 0 → h'.objs.size = s.heap.objs.size + 2 → (∀ b o, s.heap.get? b = some o → h'.get? b = some o) →
      Q (.ref (s.heap.objs.size + 1)) { s with heap := h' }) : wpAny (model prog w) A (call (.type "enumerate") [.ref l]) Q E s := by
  obtain ⟨⟨c, dct, dt, sl⟩, hl, hc, n, hd⟩ := hL
  have hc : c = .type "tuple" := hc
  have hd : dt = .seq items n := hd
  subst hc; subst hd
  refine callType_new F.called_enumerate (by decide) (F.typeCall_enumerate_1 _) (F.newCall_enumerate_1 _) (fun obj => F.args_object_init_2 obj _) F.entry_enumerate_new
    (meets_enumerate_newT l items n dct sl) ⟨hl, ?_⟩
  have hz : (s.heap.push { cls := .type "tuple_iterator", data := .fields #[.ref l, .int 0 0] }).objs.size = s.heap.objs.size + 1 := Heap.size_push ..
  show _ ∧ _
  rw [hz]
  have he : IsEnum ((s.heap.push { cls := .type "tuple_iterator", data := .fields #[.ref l, .int 0 0] }).push
      { cls := .type "enumerate", data := .fields #[.none, .bool false, .ref s.heap.objs.size, rawInt 0, .none, .none] }) (s.heap.objs.size + 1) s.heap.objs.size 0 .none := by
    have q := Heap.get?_push_size (s.heap.push { cls := .type "tuple_iterator", data := .fields #[.ref l, .int 0 0] })
      (o := { cls := .type "enumerate", data := .fields #[.none, .bool false, .ref s.heap.objs.size, rawInt 0, .none, .none] }) rfl
    rw [hz] at q; exact q
  refine ⟨⟨_, he, rfl⟩, h _ he ⟨_, Heap.get?_push_of_some _ (Heap.get?_push_size _ rfl), rfl, rfl⟩ (by rw [Heap.size_push, hz]) fun b o x => Heap.get?_push_of_some _ (Heap.get?_push_of_some _ x)⟩
end
theorem pyNext_enumT_end {prog : Program} {w : World} {A : Around} {E : Value → Shared → Prop} {s : Shared} {e it l : Addr} {i : Nat} {items : Array Value} {old : Value} {Q : Option Value → Shared → Prop} (hh : A.handled = none)
    (he : IsEnum s.heap e it i old) (hit : s.heap.IsTupleIter it l i) (hl : s.heap.IsTuple l items) (hx : items[i]? = none)
    (hQ : ∀ h', Heap.ExtBut it s.heap h' → Q none { s with heap := h' }) : wpAny (model prog w) A (pyNext (.ref e)) Q E s := by
  have hT : s.TypeIs (.ref e) "enumerate" := ⟨_, he, rfl⟩
  unfold pyNext
  refine wpAny_bind (wpAny_attempt (wpAny_callSpecial?_slot (name := Str.ofString "__next__") hT F.slot_enumerate_next
    (wpAny_call_entry F.slot_enumerate_next hT F.entry_enumerate_next ?_ (F.args_enumerate_next_1 _))))
  show wpAny _ _ (field (.ref e) 2 >>= _) _ _ _
  refine wpAny_bind (wpAny_field he rfl (x := .ref it) rfl ?_)
  refine wpAny_bind (wpAny_nextOf_tuple_end (A := A.in1) hh hit hl hx fun h' x he' hx' => ?_)
  obtain ⟨o, ho, hc⟩ := hx'
  refine wpAny_bind (wpAny_isInstance (T := "StopIteration") (b := true) ⟨o, ho, hc⟩ isSubtype_stop ?_)
  exact wpAny_pure (hQ _ he')
end PySem
namespace Snd
open PySem PySem.Spec L2
open PyProof.Rows hiding St
def IteT (K : PySem.W.Frag) (a : Addr) : It :=
  ⟨fun i H => ∃ (xs : List V) (x : V), SqT K H a xs ∧ xs[i]? = some x, fun i H v H' => ∃ T x, v = .ref T ∧ H T = none ∧ H' = upd H T (.tup [.int (i : Nat), x]) ∧ ∀ xs, SqT K H a xs → xs[i]? = some x, fun i H => ∃ xs : List V, SqT K H a xs ∧ xs.length ≤ i⟩
theorem turn_enumT {P : Program} {w : World} {K : PySem.W.Frag} {elts : List Expr} {kk : Nat} {tpos : Pos} (a e it : Addr) :
    Turn P w K (.Tuple elts kk tpos) (IteT K a) [e, it] e (fun i h => (∃ old, IsEnum h e it ((i : Nat) : Int) old) ∧ h.IsTupleIter it a i ∧ e ≠ it ∧ a ≠ it ∧ a ≠ e) where
  mem := by simp
  obj := fun i h st b hb => by
    obtain ⟨⟨old, he⟩, ⟨o, ho, hc, hd⟩, _⟩ := st
    have e' : b = e ∨ b = it := by simpa using hb
    rcases e' with z | z
    · rw [z]; exact ⟨_, he, fun v q => nomatch q⟩
    · rw [z]; exact ⟨o, ho, fun v q => by rw [hd] at q; cases q⟩
  keep := fun i h h' st k => let ⟨⟨old, he⟩, hi, hne⟩ := st; ⟨⟨old, k e (by simp) _ he⟩, hi.at fun o q => k it (by simp) o q, hne⟩
  item := by
    intro X hP hw hK hc i pins s σ H E I hf st hg
    subst hP hw hK
    obtain ⟨⟨old, he⟩, hit, hne, hai, hae⟩ := st
    obtain ⟨xs, x, hq, hx⟩ := hg
    obtain ⟨its, rv, p, hz⟩ := I.tuple hq
    obtain ⟨u, hu, ru⟩ := rv.get hx
    have hel : e < s.heap.objs.size := Heap.lt_size he
    have hil : it < s.heap.objs.size := by obtain ⟨_, q, _⟩ := hit; exact Heap.lt_size q
    have hlt : i < its.toArray.size := by rw [List.size_toArray]; exact (List.getElem?_eq_some_iff.mp hu).1
    refine wpAny_pyNext_enum_itemD (D := Draws.tuple (A := X.A.in1) (show X.A.in1.handled = none from I.ok.hd hc) it a hai its.toArray) he ⟨hit, p⟩ hlt hne (by simp; exact ⟨hne, Ne.symm hae⟩) fun y h' tk hy ho hit' hT hsz hk => ?_
    have hyu : y = u := by
      have hy : its.toArray[i]? = some y := hy
      rw [← Array.getElem?_toList] at hy
      have hy : its[i]? = some y := hy
      rw [hu] at hy; exact (Option.some.inj hy).symm
    subst hyu
    refine ⟨_, rfl, wpAny_letOwnedTupleGo_enum (s := { s with heap := h', toks := tk + 1 }) ho fun h'' he' sb => ?_⟩
    have hT2 : h''.get? s.heap.objs.size = some { cls := .type "tuple", data := .seq #[.int i tk, y] } := (sb.2 _ (Nat.ne_of_gt hel)).trans hT
    have new : ObjOk X.prog X.w (upd H s.heap.objs.size (.tup [.int (i : Nat), x])) h'' s.heap.objs.size (.tup [.int (i : Nat), x]) :=
      ⟨by show 2 ≤ sizeLine; decide, [.int i tk, y], .cons ⟨_, rfl⟩ (.cons ru .nil), ⟨_, hT2, rfl, _, rfl⟩⟩
    have I1 : Inv X pins σ (upd H s.heap.objs.size (.tup [.int (i : Nat), x])) { s with heap := h'', toks := tk + 1 } :=
      I.turnedNew (ch := [e, it]) (fun b ob hb q => (sb.2 b (fun z => hb (by simp [z]))).trans (hk b ob (fun z => hb (by simp [z])) (fun z => hb (by simp [z])) q)) hf (Nat.le_refl _) new
    refine ⟨.ref s.heap.objs.size, _, I1, rfl, ⟨_, x, rfl, I.hok.fresh (Nat.le_refl _), rfl, fun ys hy => by rw [I.tuple_inj hy hq]; exact hx⟩, ⟨⟨y, ?_⟩, hit'.1.at fun o q => (sb.2 it (Ne.symm hne)).trans q, hne, hai, hae⟩, fun b hb => ?_⟩
    · have e1 : ((i + 1 : Nat) : Int) = (i : Int) + 1 := by omega
      rw [e1]; exact he'
    · have hb' : b < s.heap.objs.size := by
        have e' : b = e ∨ b = it := by simpa using hb
        rcases e' with z | z
        · rw [z]; exact hel
        · rw [z]; exact hil
      rw [upd_ne (Nat.ne_of_lt hb')]
      exact (hf b hb).1
  done := by
    intro X hP hw hK hc i pins s σ H E I hf st hg
    subst hP hw hK
    obtain ⟨⟨old, he⟩, hit, hne, hai, hae⟩ := st
    obtain ⟨xs, hq, hx⟩ := hg
    obtain ⟨its, rv, p, hz⟩ := I.tuple hq
    obtain ⟨f0, f1, f2, f3, f4, f5⟩ := hf it (by simp)
    have hl := rv.length
    exact pyNext_enumT_end (I.ok.hd hc) he hit p (by simp; omega) fun h' eb => ⟨rfl, I.turned (t' := s.toks) (fun b o hb q => eb b o hb q) f0 f1 f3 f4 f5⟩
  self := fun A i s Q E st h => let ⟨⟨_, he⟩, _⟩ := st; wpAny_pyIter_enum he h
/-- over a list or a tuple -/
def iEnumA (K : PySem.W.Frag) (ta : TA) : TI := fun σ H R => ta σ H fun vs H1 => ∃ a xs, vs = [.ref a] ∧ ((SqL K H1 a xs ∧ R (Ite K a) H1) ∨ (SqT K H1 a xs ∧ R (IteT K a) H1))
theorem pi_enumA {X : L2.Cx} {e : Expr} {ta : TA} {p pos tpos : Pos} {elts : List Expr} {kk : Nat} (hg : Gl X "enumerate") (hm : X.mg "enumerate" = none) (ha : PA X [e] ta) (hs : starEach [e] X.env = [(false, eval e X.env)] := by rfl) :
    PI X (.Tuple elts kk tpos) (.Call (.Name "enumerate" p) [e] [] pos) (iEnumA X.K ta) := by
  refine ⟨fun pins s σ H R I h => ?_⟩
  refine Call_ (ld_blt I hg hm boot_enumerate (PyProof.Rows.callWith_type1 (thn (ha.run pos pins s σ H _ I h) fun us s1 ⟨vs, H1, I1, r1, q1⟩ => ?_) hs rfl))
  obtain ⟨a, xs, ex, hq⟩ := q1
  subst ex
  cases r1 with
  | cons r rr =>
    cases rr
    cases r
    rcases hq with ⟨hq, q⟩ | ⟨hq, q⟩
    · obtain ⟨its, rv, p', hz⟩ := I1.list hq
      refine call_enumerate_list p'.isList fun h' he hit hsz hk => wpAny_pyIter_enum he ?_
      have I2 : Inv X pins σ H1 { s1 with heap := h' } := I1.kept (t' := s1.toks) hk
      refine ⟨s1.heap.objs.size + 1, [s1.heap.objs.size + 1, s1.heap.objs.size], _, _, H1, rfl, I2, turn_enum a (s1.heap.objs.size + 1) s1.heap.objs.size, ⟨⟨.none, he⟩, hit, Nat.succ_ne_self _⟩, fun b hb => ?_, q⟩
      have e' : b = s1.heap.objs.size + 1 ∨ b = s1.heap.objs.size := by simpa using hb
      have hle : s1.heap.objs.size ≤ b := by rcases e' with z | z <;> rw [z] <;> omega
      exact I1.fpOk hle (I1.hok.fresh hle)
    · obtain ⟨its, rv, p', hz⟩ := I1.tuple hq
      have hal : a < s1.heap.objs.size := by obtain ⟨_, q, _⟩ := p'; exact Heap.lt_size q
      refine call_enumerate_tuple p' fun h' he hit hsz hk => wpAny_pyIter_enum he ?_
      have I2 : Inv X pins σ H1 { s1 with heap := h' } := I1.kept (t' := s1.toks) hk
      refine ⟨s1.heap.objs.size + 1, [s1.heap.objs.size + 1, s1.heap.objs.size], _, _, H1, rfl, I2, turn_enumT a (s1.heap.objs.size + 1) s1.heap.objs.size, ⟨⟨.none, he⟩, hit, Nat.succ_ne_self _, Nat.ne_of_lt hal, Nat.ne_of_lt (Nat.lt_succ_of_lt hal)⟩, fun b hb => ?_, q⟩
      have e' : b = s1.heap.objs.size + 1 ∨ b = s1.heap.objs.size := by simpa using hb
      have hle : s1.heap.objs.size ≤ b := by rcases e' with z | z <;> rw [z] <;> omega
      exact I1.fpOk hle (I1.hok.fresh hle)
theorem walk_enumT {K : PySem.W.Frag} {a : Addr} {xs : List V} : Walk (IteT K a) xs.length (fun H => SqT K H a xs) (YPair (fun i => some (.int (i : Nat))) (fun i => xs[i]?)) := by
  refine ⟨fun i _ hi q => ⟨xs, xs[i], q, by simp [hi]⟩, fun _ q => ⟨xs, q, Nat.le_refl _⟩, fun i H v H' _ q y => ?_⟩
  obtain ⟨T, x, h1, h2, h3, h4⟩ := y
  exact ⟨T, .int (i : Nat), x, h1, h2, h3, rfl, h4 xs q⟩
end Snd
namespace Snd
open PySem PySem.Spec L2
open PyProof.Rows hiding St

/-- all stands that was tracked, but the cup, and the lists and dicts of Z -/
structure Kept (Z : Bn) (c : Addr) (H H' : Hp) : Prop where
  tup : ∀ a vs, H a = some (.tup vs) → a ≠ c → H' a = some (.tup vs)
  oth : ∀ a o, H a = some o → a ≠ c → ¬ Z a → H' a = some o
theorem Kept.refl (Z : Bn) (c : Addr) (H : Hp) : Kept Z c H H := ⟨fun _ _ e _ => e, fun _ _ e _ _ => e⟩
theorem Ext.kept {Z : Bn} {c : Addr} {H H' : Hp} (x : Ext c H H') (k : CupOk H' c) : Kept Z c H H' := ⟨fun a vs e n => x a _ e n, fun a o e n _ => x a o e n⟩
theorem Ext.dom {c : Addr} {H H' : Hp} (x : Ext c H H') (k : CupOk H' c) (a : Addr) (h : H a ≠ Option.none) : H' a ≠ Option.none := by
  by_cases e : a = c
  · subst e; exact k.some
  · cases q : H a with
    | none => exact absurd q h
    | some o => rw [x a o q e]; exact fun z => nomatch z
theorem Kept.trans {Z : Bn} {c : Addr} {H H1 H2 : Hp} (x : Kept Z c H H1) (y : Kept Z c H1 H2) : Kept Z c H H2 := ⟨fun a vs e n => y.tup a vs (x.tup a vs e n) n, fun a o e n z => y.oth a o (x.oth a o e n z) n z⟩
theorem Kept.ext {c : Addr} {H H' : Hp} (x : Kept B0 c H H') : Ext c H H' := fun a o e n => x.oth a o e n fun z => z
theorem Kept.mono {Z Z' : Bn} {c : Addr} {H H' : Hp} (x : Kept Z c H H') (m : ∀ a, Z a → Z' a) : Kept Z' c H H' := ⟨x.tup, fun a o e n z => x.oth a o e n fun q => z (m a q)⟩
section
variable {K : PySem.W.Frag} {H H' : Hp} {B Z : Bn} {c : Addr}
theorem Kept.rdD (x : Kept Z c H H') (hz : ∀ a, Z a → B a) {a : Addr} {u : HO} {ne : Prop} (n : a ≠ c) (b : ¬ B a) (r : RdD H a u ne) : RdD H' a u ne := by
  rcases r with r | ⟨h, o, r⟩
  · exact .inl (x.oth a _ r n fun z => b (hz a z))
  · exact .inr ⟨h, o, x.oth a _ r n fun z => b (hz a z)⟩
mutual
theorem Rep.kept (x : Kept Z c H H') (hz : ∀ a, Z a → B a) : ∀ {t : Tr} {v : V}, Rep K H B c t v → Rep K H' B c t v
  | .non, _, r => by simpa only [Rep] using r
  | .bl _, _, r => by simpa only [Rep] using r
  | .int _, _, r => by simpa only [Rep] using r
  | .str _, _, r => by simpa only [Rep] using r
  | .tup xs, _, r => by
    simp only [Rep] at r ⊢
    obtain ⟨a, vs, e, n, s, l⟩ := r
    exact ⟨a, vs, e, n, x.tup a _ s n, RepL.kept x hz l⟩
  | .lst xs, _, r => by
    simp only [Rep] at r ⊢
    obtain ⟨a, vs, e, n, b, s, l⟩ := r
    exact ⟨a, vs, e, n, b, x.oth a _ s n fun z => b (hz a z), RepL.kept x hz l⟩
  | .dct kvs, _, r => by
    simp only [Rep] at r ⊢
    obtain ⟨a, vs, e, n, b, l, s⟩ := r
    refine ⟨a, vs, e, n, b, RepV.kept x hz l, ?_⟩
    rcases s with ⟨ks, l1, l2, s⟩ | ⟨ks, l1, l2, s⟩
    · exact .inl ⟨ks, l1, l2, x.rdD hz n b s⟩
    · exact .inr ⟨ks, l1, l2, x.rdD hz n b s⟩
  | .set _, _, r => by simpa only [Rep] using r
  | .cup, _, r => by simpa only [Rep] using r
theorem RepL.kept (x : Kept Z c H H') (hz : ∀ a, Z a → B a) : ∀ {ts : List Tr} {vs : List V}, RepL K H B c ts vs → RepL K H' B c ts vs
  | [], _, r => by simpa only [RepL] using r
  | t :: ts, _, r => by
    simp only [RepL] at r ⊢
    obtain ⟨v, w, e, h1, h2⟩ := r
    exact ⟨v, w, e, Rep.kept x hz h1, RepL.kept x hz h2⟩
theorem RepV.kept (x : Kept Z c H H') (hz : ∀ a, Z a → B a) : ∀ {ts : List (Tr × Tr)} {vs : List V}, RepV K H B c ts vs → RepV K H' B c ts vs
  | [], _, r => by simpa only [RepV] using r
  | (_, t) :: ts, _, r => by
    simp only [RepV] at r ⊢
    obtain ⟨v, w, e, h1, h2⟩ := r
    exact ⟨v, w, e, Rep.kept x hz h1, RepV.kept x hz h2⟩
end
end
section
variable {K : PySem.W.Frag} {H : Hp} {B B' : Bn} {c : Addr}
theorem Ev.chg {es : Nat → Bool} {σ : L2.St} {env : Py.Env} (hb : ∀ a, B' a → B a ∨ H a = none) (h : Ev K c es B σ H env) : Ev K c es B' σ H env := ⟨fun i t e => by
  obtain ⟨v, h1, h2, h3⟩ := h.get i t e
  exact ⟨v, h1, h2.chg hb, fun q => (h3 q).chg hb⟩, h.len⟩
end
/-- J walks the trees ts, whatever of Z's is written meanwhile -/
structure Wk (K : PySem.W.Frag) (B Z : Bn) (c : Addr) (J : It) (ts : List Tr) (H1 : Hp) : Prop where
  goes : ∀ i H', i < ts.length → Kept Z c H1 H' → J.go i H'
  stops : ∀ H', Kept Z c H1 H' → J.stop ts.length H'
  yields : ∀ i H' x H'', i < ts.length → Kept Z c H1 H' → CupOk H' c → J.yld i H' x H'' → Ext c H' H'' ∧ CupOk H'' c ∧ ∃ t, ts[i]? = some t ∧ Rep K H'' B c t x
section
variable {K : PySem.W.Frag} {B Z : Bn} {c : Addr} {J : It} {ts : List Tr} {H1 : Hp}
theorem Wk.of {n : Nat} {G : Hp → Prop} {Y : Nat → Hp → V → Hp → Prop} (w : Walk J n G Y) (hn : n = ts.length) (hG : ∀ H', Kept Z c H1 H' → G H')
    (hY : ∀ i H' x H'', i < ts.length → Kept Z c H1 H' → CupOk H' c → Y i H' x H'' → Ext c H' H'' ∧ CupOk H'' c ∧ ∃ t, ts[i]? = some t ∧ Rep K H'' B c t x) : Wk K B Z c J ts H1 := by
  subst hn
  exact ⟨fun i H' hi k => w.goes i H' hi (hG H' k), fun H' k => w.stops H' (hG H' k), fun i H' x H'' hi k kc y => hY i H' x H'' hi k kc (w.yields i H' x H'' hi (hG H' k) y)⟩
theorem lt_get {α : Type} {xs : List α} {i : Nat} (h : i < xs.length) : ∃ x, xs[i]? = some x := ⟨xs[i], by simp [h]⟩
theorem Wk.list {a : Addr} {vs : List V} (hz : ∀ a, Z a → B a) (na : a ≠ c) (nz : ¬ Z a) (ha : H1 a = some (.lst vs)) (l : RepL K H1 B c ts vs) : Wk K B Z c (Itl K a) ts H1 := by
  refine Wk.of (walk_list (xs := vs)) l.length.symm (fun H' k => SqL.of (k.oth a _ ha na nz)) fun i H' x H'' hi k kc ⟨e, hx⟩ => ?_
  subst e
  obtain ⟨t, ht⟩ := lt_get hi
  obtain ⟨v, hv, r⟩ := l.get ht
  rw [hx] at hv
  cases hv
  exact ⟨Ext.refl c H'', kc, t, ht, r.kept k hz⟩
theorem Wk.tuple {a : Addr} {vs : List V} (hz : ∀ a, Z a → B a) (na : a ≠ c) (ha : H1 a = some (.tup vs)) (l : RepL K H1 B c ts vs) : Wk K B Z c (Itt K a) ts H1 := by
  refine Wk.of (walk_tup (xs := vs)) l.length.symm (fun H' k => SqT.of (k.tup a _ ha na)) fun i H' x H'' hi k kc ⟨e, hx⟩ => ?_
  subst e
  obtain ⟨t, ht⟩ := lt_get hi
  obtain ⟨v, hv, r⟩ := l.get ht
  rw [hx] at hv
  cases hv
  exact ⟨Ext.refl c H'', kc, t, ht, r.kept k hz⟩
/-- the integers a .. b - 1 -/
def rgT (a b : Int) : List Tr := (List.range (b - a).toNat).map fun i => .int (a + (i : Nat))
theorem rgT_length (a b : Int) : (rgT a b).length = (b - a).toNat := by simp [rgT]
theorem rgT_get {a b : Int} {i : Nat} (h : i < (rgT a b).length) : (rgT a b)[i]? = some (.int (a + (i : Nat))) := by
  rw [rgT_length] at h
  simp [rgT, h]
theorem repL_map {α : Type} {f : α → Tr} {f' : α → V} {H : Hp} (h : ∀ a, Rep K H B c (f a) (f' a)) : ∀ xs : List α, RepL K H B c (xs.map f) (xs.map f')
  | [] => RepL.nil
  | x :: xs => RepL.cons (h x) (repL_map h xs)
theorem rgT_rep (a b : Int) (H : Hp) : RepL K H B c (rgT a b) (rgV a b) := repL_map (fun _ => repI) _
theorem Wk.range {a b : Int} : Wk K B Z c (Itr a (b - a).toNat) (rgT a b) H1 := by
  refine Wk.of (walk_range (lo := a) (n := (b - a).toNat)) (rgT_length a b).symm (fun H' k => trivial) fun i H' x H'' hi k kc ⟨e, hx⟩ => ?_
  subst e hx
  exact ⟨Ext.refl c H'', kc, _, rgT_get hi, repI⟩
theorem new_pair {H : Hp} {T : Addr} {x y : V} {tx ty : Tr} (kc : CupOk H c) (hT : H T = none) (rx : Rep K H B c tx x) (ry : Rep K H B c ty y) : Ext c H (upd H T (.tup [x, y])) ∧ CupOk (upd H T (.tup [x, y])) c ∧ Rep K (upd H T (.tup [x, y])) B c (.tup [tx, ty]) (.ref T) := by
  have hH : Here B0 c H := ⟨kc, fun _ z => z.elim⟩
  have x1 : Ext c H (upd H T (.tup [x, y])) := Ext.new hT
  refine ⟨x1, hH.new hT, ?_⟩
  simp only [Rep]
  exact ⟨T, _, rfl, hH.ne hT, upd_same, RepL.cons (rx.ext x1) (RepL.cons (ry.ext x1) RepL.nil)⟩
theorem zipL_get : ∀ {xs ys : List Tr} {i : Nat}, (Py.zipL xs ys)[i]? = (match xs[i]?, ys[i]? with | some x, some y => some (.tup [x, y]) | _, _ => none)
  | [], ys, i => by cases ys <;> simp [Py.zipL]
  | x :: xs, [], i => by simp [Py.zipL]
  | x :: xs, y :: ys, 0 => by simp [Py.zipL]
  | x :: xs, y :: ys, i + 1 => by simp [Py.zipL, zipL_get (xs := xs) (ys := ys) (i := i)]
theorem zipL_length : ∀ (xs ys : List Tr), (Py.zipL xs ys).length = min xs.length ys.length
  | [], ys => by cases ys <;> simp [Py.zipL]
  | x :: xs, [] => by simp [Py.zipL]
  | x :: xs, y :: ys => by simp [Py.zipL, zipL_length xs ys]
theorem zip_yield {xs ys : List Tr} {vs us : List V} {H' : Hp} {H1 : Hp} (hz : ∀ a, Z a → B a) (l : RepL K H1 B c xs vs) (l2 : RepL K H1 B c ys us) {i : Nat} {x : V} {H'' : Hp} (hi : i < (Py.zipL xs ys).length) (k : Kept Z c H1 H') (kc : CupOk H' c) (y : YPair (fun i => vs[i]?) (fun i => us[i]?) i H' x H'') :
    Ext c H' H'' ∧ CupOk H'' c ∧ ∃ t, (Py.zipL xs ys)[i]? = some t ∧ Rep K H'' B c t x := by
  obtain ⟨T, x1, y1, rfl, hT, rfl, hx, hy⟩ := y
  rw [zipL_length] at hi
  obtain ⟨t, ht⟩ := lt_get (xs := xs) (i := i) (by omega)
  obtain ⟨u, hu⟩ := lt_get (xs := ys) (i := i) (by omega)
  obtain ⟨v1, hv1, r1⟩ := l.get ht
  obtain ⟨v2, hv2, r2⟩ := l2.get hu
  rw [show vs[i]? = some x1 from hx] at hv1
  rw [show us[i]? = some y1 from hy] at hv2
  cases hv1
  cases hv2
  obtain ⟨e1, e2, e3⟩ := new_pair kc hT (r1.kept k hz) (r2.kept k hz)
  exact ⟨e1, e2, .tup [t, u], by rw [zipL_get, ht, hu], e3⟩
theorem Wk.zipLL {a b : Addr} {vs us : List V} {xs ys : List Tr} (hz : ∀ a, Z a → B a) (na : a ≠ c) (nz : ¬ Z a) (ha : H1 a = some (.lst vs)) (l : RepL K H1 B c xs vs) (nb : b ≠ c) (nz2 : ¬ Z b) (hb : H1 b = some (.lst us)) (l2 : RepL K H1 B c ys us) : Wk K B Z c (Itz K a b) (Py.zipL xs ys) H1 := by
  refine Wk.of (walk_zip (xs := vs) (ys := us) (n := min vs.length us.length) rfl) (by rw [zipL_length, l.length, l2.length]) (fun H' k => ⟨SqL.of (k.oth a _ ha na nz), SqL.of (k.oth b _ hb nb nz2)⟩) fun i H' x H'' hi k kc y => zip_yield hz l l2 hi k kc y
theorem walk_zipT {a b : Addr} {xs ys : List V} {n : Nat} (hn : n = min xs.length ys.length) : Walk (RZ.ItzT K a b) n (fun H => SqT K H a xs ∧ SqT K H b ys) (YPair (fun i => xs[i]?) (fun i => ys[i]?)) := by
  subst hn
  refine ⟨fun i _ hi q => ?_, fun _ q => ⟨xs, ys, q.1, q.2, by omega⟩, fun i H v H' _ q y => ?_⟩
  · have h1 : i < xs.length := by omega
    have h2 : i < ys.length := by omega
    exact ⟨xs, ys, xs[i], ys[i], q.1, q.2, by simp [h1], by simp [h2]⟩
  · obtain ⟨T, x, z, h1, h2, h3, h4, h5⟩ := y
    exact ⟨T, x, z, h1, h2, h3, h4 xs q.1, h5 ys q.2⟩
theorem Wk.zipTT {a b : Addr} {vs us : List V} {xs ys : List Tr} (hz : ∀ a, Z a → B a) (na : a ≠ c) (ha : H1 a = some (.tup vs)) (l : RepL K H1 B c xs vs) (nb : b ≠ c) (hb : H1 b = some (.tup us)) (l2 : RepL K H1 B c ys us) : Wk K B Z c (RZ.ItzT K a b) (Py.zipL xs ys) H1 := by
  refine Wk.of (walk_zipT (xs := vs) (ys := us) (n := min vs.length us.length) rfl) (by rw [zipL_length, l.length, l2.length]) (fun H' k => ⟨SqT.of (k.tup a _ ha na), SqT.of (k.tup b _ hb nb)⟩) fun i H' x H'' hi k kc y => zip_yield hz l l2 hi k kc y
theorem enumL_get : ∀ {xs : List Tr} {n i : Nat}, (Py.enumL n xs)[i]? = (xs[i]?).map fun x => .tup [.int ((n + i : Nat) : Int), x]
  | [], n, i => by simp [Py.enumL]
  | x :: xs, n, 0 => by simp [Py.enumL]
  | x :: xs, n, i + 1 => by
    simp only [Py.enumL, List.getElem?_cons_succ]
    rw [enumL_get (xs := xs)]
    congr 1
    funext y
    rw [show n + 1 + i = n + (i + 1) by omega]
theorem enumL_length : ∀ (xs : List Tr) (n : Nat), (Py.enumL n xs).length = xs.length
  | [], n => rfl
  | x :: xs, n => by simp [Py.enumL, enumL_length xs]
theorem Wk.enum {a : Addr} {vs : List V} {xs : List Tr} (hz : ∀ a, Z a → B a) (na : a ≠ c) (nz : ¬ Z a) (ha : H1 a = some (.lst vs)) (l : RepL K H1 B c xs vs) : Wk K B Z c (Ite K a) (Py.enumL 0 xs) H1 := by
  refine Wk.of (walk_enum (xs := vs)) (by rw [enumL_length, l.length]) (fun H' k => SqL.of (k.oth a _ ha na nz)) fun i H' x H'' hi k kc y => ?_
  obtain ⟨T, x1, y1, rfl, hT, rfl, hx, hy⟩ := y
  cases hx
  rw [enumL_length] at hi
  obtain ⟨t, ht⟩ := lt_get hi
  obtain ⟨v1, hv1, r1⟩ := l.get ht
  rw [show vs[i]? = some y1 from hy] at hv1
  cases hv1
  obtain ⟨e1, e2, e3⟩ := new_pair (tx := .int (i : Nat)) kc hT repI (r1.kept k hz)
  exact ⟨e1, e2, _, by rw [enumL_get, ht]; simp, e3⟩
theorem Wk.enumT {a : Addr} {vs : List V} {xs : List Tr} (hz : ∀ a, Z a → B a) (na : a ≠ c) (ha : H1 a = some (.tup vs)) (l : RepL K H1 B c xs vs) : Wk K B Z c (IteT K a) (Py.enumL 0 xs) H1 := by
  refine Wk.of (walk_enumT (xs := vs)) (by rw [enumL_length, l.length]) (fun H' k => SqT.of (k.tup a _ ha na)) fun i H' x H'' hi k kc y => ?_
  obtain ⟨T, x1, y1, rfl, hT, rfl, hx, hy⟩ := y
  cases hx
  rw [enumL_length] at hi
  obtain ⟨t, ht⟩ := lt_get hi
  obtain ⟨v1, hv1, r1⟩ := l.get ht
  rw [show vs[i]? = some y1 from hy] at hv1
  cases hv1
  obtain ⟨e1, e2, e3⟩ := new_pair (tx := .int (i : Nat)) kc hT repI (r1.kept k hz)
  exact ⟨e1, e2, _, by rw [enumL_get, ht]; simp, e3⟩
end
section
variable {X : L2.Cx} {tg : Expr}
/-- a list or a tuple -/
def iSeq (K : PySem.W.Frag) (tl : TE) : TI := fun σ H R => tl σ H fun x H1 => ∃ a, x = .ref a ∧ (((∃ xs, SqL K H1 a xs) ∧ R (Itl K a) H1) ∨ ((∃ xs, SqT K H1 a xs) ∧ R (Itt K a) H1))
theorem pi_seq {l : Expr} {tl : TE} (hl : PE X l tl) : PI X tg l (iSeq X.K tl) := by
  refine ⟨fun pins s σ H R I h => ?_⟩
  refine thn (hl.run pins s σ H _ I h) fun v s1 ⟨x, H1, I1, r1, q1⟩ => ?_
  obtain ⟨a, e, ⟨⟨xs, hq⟩, q⟩ | ⟨⟨xs, hq⟩, q⟩⟩ := q1
  · subst e
    cases r1
    obtain ⟨its, rv, p, hz⟩ := I1.list hq
    refine wpAny_pyIter_list p.isList ?_
    refine ⟨s1.heap.objs.size, [s1.heap.objs.size], _, _, H1, rfl, I1.kept (t' := s1.toks) fun b o e => Heap.get?_push_of_some _ e, turn_list a _, ⟨_, Heap.get?_push_size _ rfl, rfl, rfl⟩, fun b hb => ?_, q⟩
    have e : b = s1.heap.objs.size := by simpa using hb
    subst e
    exact I1.fpOk (Nat.le_refl _) (I1.hok.fresh (Nat.le_refl _))
  · subst e
    cases r1
    obtain ⟨its, rv, p, hz⟩ := I1.tuple hq
    refine wpAny_pyIter_tuple (show s1.heap.IsTuple a its.toArray from p) ?_
    refine ⟨s1.heap.objs.size, [s1.heap.objs.size], _, _, H1, rfl, I1.kept (t' := s1.toks) fun b o e => Heap.get?_push_of_some _ e, turn_tuple a _, ⟨_, Heap.get?_push_size _ rfl, rfl, rfl⟩, fun b hb => ?_, q⟩
    have e : b = s1.heap.objs.size := by simpa using hb
    subst e
    exact I1.fpOk (Nat.le_refl _) (I1.hok.fresh (Nat.le_refl _))
end
end Snd

set_option Elab.async false
set_option linter.all false
set_option maxRecDepth 100000
set_option maxHeartbeats 2000000
namespace Snd
open PySem PySem.Spec L2
open PyProof.Rows hiding St
def Zof (z : Bool) (B : Bn) : Bn := if z then B0 else B
theorem Zof_le {z : Bool} {B : Bn} : ∀ a, Zof z B a → B a := by
  intro a h
  cases z with
  | true => exact False.elim h
  | false => exact h
section
variable (C : Py.Cx) (K : PySem.W.Frag) (c : Addr)
/-- what is walked; z: nothing is written meanwhile -/
def tI (z : Bool) (e : Py.E) : TI := fun σ H R => ∃ (B : Bn) (env : Py.Env), Here B c H ∧ Ev K c (esc z e) B σ H env ∧ WP ((Py.den C e env).bind Py.itemsS) (fun ts => ∀ J H1, Ext c H H1 → CupOk H1 c → (∀ B', (∀ a, B' a → B a ∨ H1 a = none) → (∀ a, Zof z B a → B' a) → Wk K B' (Zof z B) c J ts H1) → R J H1)
/-- a range's ends -/
def rgM : Py.E → Py.Env → Py.M (Int × Int)
  | .rng1 a, env => (Py.den C a env).bind fun x => (Py.asI x).bind fun n => .ret (0, n)
  | .rng2 a b, env => (Py.den C a env).bind fun x => (Py.den C b env).bind fun y => (Py.asI x).bind fun i => (Py.asI y).bind fun j => .ret (i, j)
  | _, _ => .stuck
def tR (e : Py.E) : St → Hp → (Int → Int → Hp → Prop) → Prop := fun σ H Q => ∃ (B : Bn) (env : Py.Env), Here B c H ∧ Ev K c (fun _ => false) B σ H env ∧ WP (rgM C e env) (fun p => ∀ H1, Ext c H H1 → CupOk H1 c → Q p.1 p.2 H1)
end
section
variable {C : Py.Cx} {P : Program} {w : World} {K : PySem.W.Frag} {mg : Str → Option Value} {base : Heap} {g : Gx} {lv : Nat} {c : Addr}
variable (C P w K mg base g lv c) in
structure SndI (e : Py.E) : Prop where
  it : ∀ (X : L2.Cx) (sc : Scope) (tg x : Expr) (z : Bool), Good P w K mg base g lv X sc → chkIt g sc (isTupTg tg) e x = true → PI X tg x (tI C K c z e)
  rg : ∀ (X : L2.Cx) (sc : Scope) (x : Expr), Good P w K mg base g lv X sc → isRg e = true → chkIt g sc false e x = true → PRg X x (tR C K c e)
theorem PI.imp {X : L2.Cx} {tg e : Expr} {t t' : TI} (h : PI X tg e t) (i : ∀ σ H R, t' σ H R → t σ H R) : PI X tg e t' := ⟨fun pins s σ H R I hw => h.run pins s σ H R I (i σ H R hw)⟩
theorem itemsS_inv {t : Tr} {R : List Tr → Prop} (h : WP (Py.itemsS t) R) : ∃ xs, (t = .lst xs ∨ t = .tup xs) ∧ R xs := by
  cases t with
  | lst xs => exact ⟨xs, .inl rfl, h⟩
  | tup xs => exact ⟨xs, .inr rfl, h⟩
  | _ => exact False.elim h
theorem pi_val {X : L2.Cx} {tg x : Expr} {e : Py.E} {z : Bool} (hK : X.K = K) (h : PE X x (tE C K c (if z then .w else .s) e)) : PI X tg x (tI C K c z e) := by
  refine PI.imp (pi_seq h) fun σ H R ⟨B, env, hH, ev, hw⟩ => ?_
  refine ⟨B, env, hH, ev.mono fun i q => by cases z <;> simpa [isW] using q, (wp_and.mp hw).mono fun t ht v H1 x1 k1 r1 => ?_⟩
  obtain ⟨xs, e, q⟩ := itemsS_inv ht
  have rw1 : RepW K H1 B c t v := by
    cases z with
    | true => exact r1
    | false => exact Rep.weak (show Rep K H1 B c t v from r1)
  rw [hK]
  rcases e with rfl | rfl
  · obtain ⟨a, vs, rfl, na, ha, l⟩ := wLst rw1
    have nz : ¬ Zof z B a := by
      cases z with
      | true => exact fun q => q
      | false =>
        have r2 : Rep K H1 B c (.lst xs) (.ref a) := r1
        simp only [Rep] at r2
        obtain ⟨a', _, e, _, nb, _⟩ := r2
        cases e
        exact nb
    exact ⟨a, rfl, .inl ⟨⟨vs, SqL.of ha⟩, q _ H1 x1 k1 (fun B' hb hz => Wk.list hz na nz ha (l.chg hb))⟩⟩
  · obtain ⟨a, vs, rfl, na, ha, l⟩ := wTup rw1
    exact ⟨a, rfl, .inr ⟨⟨vs, SqT.of ha⟩, q _ H1 x1 k1 (fun B' hb hz => Wk.tuple hz na ha (l.chg hb))⟩⟩
theorem rngM_wp {a b : Int} {R : Tr → Prop} (h : WP (Py.rngM a b) R) : RgOk a b ∧ R (.lst (rgT a b)) := by
  unfold Py.rngM at h
  obtain ⟨e, h⟩ := wp_ifs h
  simp only [Bool.and_eq_true, decide_eq_true_eq, Py.rngOk] at e
  refine ⟨⟨?_, ?_, ?_, ?_, ?_⟩, h⟩
  · have := e.1.1.1; omega
  · have := e.1.1.2; omega
  · have := e.1.2.1; omega
  · have := e.1.2.2; omega
  · have := e.2
    unfold Py.lim at this
    omega
/-- all that is no range, zip, enumerate -/
theorem sndI_none {e : Py.E} (h : ∀ (sc : Scope) (b : Bool) (x : Expr), chkIt g sc b e x = false) : SndI C P w K mg base g lv c e :=
  { it := fun X sc tg x z G hh => (by rw [h] at hh; cases hh)
    rg := fun X sc x G _ hh => (by rw [h] at hh; cases hh) }
theorem sndI_rng1 (F : Facts C P w K mg base g lv c) {a : Py.E} (ha : SN C P w K mg base g lv c a) : SndI C P w K mg base g lv c (.rng1 a) := by
  have txt : ∀ {sc : Scope} {b : Bool} {x : Expr}, chkIt g sc b (.rng1 a) x = true → ∃ q y p, x = .Call (.Name "range" q) [y] [] p ∧ glo sc "range" = true ∧ g.free "range" = true ∧ chk g sc a y = true := by
    intro sc b x h
    unfold chkIt at h
    split at h
    · obtain ⟨h1, h2, h3⟩ := andB3 h
      have e := of_decide_eq_true h1
      subst e
      obtain ⟨g1, g2, g3⟩ := glOk_inv h2
      exact ⟨_, _, _, rfl, g1, g3, h3⟩
    · cases h
  refine ⟨fun X sc tg x z G h => ?_, fun X sc x G _ h => ?_⟩
  · obtain ⟨q, y, p, rfl, h1, h2, h3⟩ := txt h
    refine PI.imp (pi_range1 (glo_ok G.sc h1) (by rw [G.mg]; exact F.free _ h2) (pa_cons (ha.pe X sc y .w G h3 okW) pa_nil (star_of h3 [] X.env)) (star_of h3 [] X.env)) fun σ H R ⟨B, env, hH, ev, hw⟩ => ?_
    have hw' : WP (Py.den C a env) fun x => WP (Py.asI x) fun n => WP (Py.rngM 0 n) fun t => WP (Py.itemsS t) fun ts => ∀ J H1, Ext c H H1 → CupOk H1 c → (∀ B', (∀ a, B' a → B a ∨ H1 a = none) → (∀ a, Zof z B a → B' a) → Wk K B' (Zof z B) c J ts H1) → R J H1 := by
      have := wp_and.mp hw
      exact (wp_and.mp this).mono fun t ht => (wp_and.mp ht)
    refine subW hH ev hw' fun t v H1 ht x1 k1 r1 => ?_
    obtain ⟨i, rfl, q⟩ := asI_wp ht
    have e := wInt r1; subst e
    obtain ⟨ok, q⟩ := rngM_wp q
    refine ⟨i, rfl, ok.2.2.1, ok.2.2.2.1, ?_⟩
    have := (show ∀ J H1, Ext c H H1 → CupOk H1 c → (∀ B', (∀ a, B' a → B a ∨ H1 a = none) → (∀ a, Zof z B a → B' a) → Wk K B' (Zof z B) c J (rgT 0 i) H1) → R J H1 from q) _ H1 x1 k1 (fun _ _ _ => Wk.range)
    simpa using this
  · obtain ⟨q, y, p, rfl, h1, h2, h3⟩ := txt h
    have pr := prg_1 (p := q) (pos := p) (glo_ok G.sc h1) (by rw [G.mg]; exact F.free _ h2) (ha.pe X sc y .w G h3 okW) (star_of h3 [] X.env)
    intro pins s σ H Q I ⟨B, env, hH, ev, hw⟩
    refine pr pins s σ H Q I ?_
    refine subW hH ev (wp_and.mp hw) fun t v H1 ht x1 k1 r1 => ?_
    obtain ⟨i, rfl, q⟩ := asI_wp (wp_and.mp ht)
    have e := wInt r1; subst e
    exact ⟨i, rfl, (show ∀ H1, Ext c H H1 → CupOk H1 c → Q 0 i H1 from q) H1 x1 k1⟩
theorem sndI_rng2 (F : Facts C P w K mg base g lv c) {a b : Py.E} (ha : SN C P w K mg base g lv c a) (hb : SN C P w K mg base g lv c b) : SndI C P w K mg base g lv c (.rng2 a b) := by
  have txt : ∀ {sc : Scope} {tb : Bool} {x : Expr}, chkIt g sc tb (.rng2 a b) x = true → ∃ q y z p, x = .Call (.Name "range" q) [y, z] [] p ∧ glo sc "range" = true ∧ g.free "range" = true ∧ chk g sc a y = true ∧ chk g sc b z = true := by
    intro sc b x h
    unfold chkIt at h
    split at h
    · obtain ⟨h1, h2, h3, h4⟩ := andB4 h
      have e := of_decide_eq_true h1
      subst e
      obtain ⟨g1, g2, g3⟩ := glOk_inv h2
      exact ⟨_, _, _, _, rfl, g1, g3, h3, h4⟩
    · cases h
  refine ⟨fun X sc tg x z G h => ?_, fun X sc x G _ h => ?_⟩
  · obtain ⟨q, y, y2, p, rfl, h1, h2, h3, h4⟩ := txt h
    refine PI.imp (pi_range2 (glo_ok G.sc h1) (by rw [G.mg]; exact F.free _ h2) (pa_cons (ha.pe X sc y .w G h3 okW) (pa_cons (hb.pe X sc y2 .w G h4 okW) pa_nil (star_of h4 [] X.env)) (star_of h3 [y2] X.env)) (by rw [star_of h3 [y2] X.env, star_of h4 [] X.env]; rfl) (star_of h4 [] X.env)) fun σ H R ⟨B, env, hH, ev, hw⟩ => ?_
    have hw' : WP (Py.den C a env) fun x => WP (Py.den C b env) fun y => WP (Py.asI x) fun i => WP (Py.asI y) fun n => WP (Py.rngM i n) fun t => WP (Py.itemsS t) fun ts => ∀ J H1, Ext c H H1 → CupOk H1 c → (∀ B', (∀ a, B' a → B a ∨ H1 a = none) → (∀ a, Zof z B a → B' a) → Wk K B' (Zof z B) c J ts H1) → R J H1 := by
      have := wp_and.mp hw
      exact (wp_and.mp this).mono fun t ht => (wp_and.mp ht).mono fun u hu => (wp_and.mp hu).mono fun i hi => (wp_and.mp hi)
    refine subW hH ev hw' fun t v H1 ht x1 k1 r1 => ?_
    refine subW (hH.ext x1 k1) (ev.ext x1) ht fun u v2 H2 hu x2 k2 r2 => ?_
    obtain ⟨i, rfl, q⟩ := asI_wp hu
    obtain ⟨j, rfl, q⟩ := asI_wp q
    have e := wInt r1; subst e
    have e := wInt r2; subst e
    obtain ⟨ok, q⟩ := rngM_wp q
    exact ⟨i, j, rfl, ⟨ok.1, ok.2.1, ok.2.2.1, ok.2.2.2.1⟩, (show ∀ J H1, Ext c H H1 → CupOk H1 c → (∀ B', (∀ a, B' a → B a ∨ H1 a = none) → (∀ a, Zof z B a → B' a) → Wk K B' (Zof z B) c J (rgT i j) H1) → R J H1 from q) _ H2 (x1.trans x2) k2 (fun _ _ _ => Wk.range)⟩
  · obtain ⟨q, y, y2, p, rfl, h1, h2, h3, h4⟩ := txt h
    have pr := prg_2 (p := q) (pos := p) (glo_ok G.sc h1) (by rw [G.mg]; exact F.free _ h2) (ha.pe X sc y .w G h3 okW) (hb.pe X sc y2 .w G h4 okW) (star_of h3 [y2] X.env) (star_of h4 [] X.env) (by rw [star_of h4 [] X.env]; rfl)
    intro pins s σ H Q I ⟨B, env, hH, ev, hw⟩
    refine pr pins s σ H Q I ?_
    refine subW hH ev (wp_and.mp hw) fun t v H1 ht x1 k1 r1 => ?_
    refine subW (hH.ext x1 k1) (ev.ext x1) (wp_and.mp ht) fun u v2 H2 hu x2 k2 r2 => ?_
    obtain ⟨i, rfl, q⟩ := asI_wp (wp_and.mp hu)
    obtain ⟨j, rfl, q⟩ := asI_wp (wp_and.mp q)
    have e := wInt r1; subst e
    have e := wInt r2; subst e
    exact ⟨i, j, rfl, rfl, (show ∀ H1, Ext c H H1 → CupOk H1 c → Q i j H1 from q) H2 (x1.trans x2) k2⟩
/-- the list of a walked thing, its top not Z's -/
theorem seq_top {z : Bool} {B : Bn} {H : Hp} {t : Tr} {v : V} (r : if z then RepW K H B c t v else Rep K H B c t v) : (∀ xs, t = .lst xs → ∃ a vs, v = .ref a ∧ a ≠ c ∧ ¬ Zof z B a ∧ H a = some (.lst vs) ∧ RepL K H B c xs vs) ∧ ∀ xs, t = .tup xs → ∃ a vs, v = .ref a ∧ a ≠ c ∧ H a = some (.tup vs) ∧ RepL K H B c xs vs := by
  cases z with
  | true =>
    refine ⟨fun xs e => ?_, fun xs e => ?_⟩
    · subst e
      obtain ⟨a, vs, e, na, ha, l⟩ := wLst (show RepW K H B c (.lst xs) v from r)
      exact ⟨a, vs, e, na, fun q => q, ha, l⟩
    · subst e
      exact wTup (show RepW K H B c (.tup xs) v from r)
  | false =>
    refine ⟨fun xs e => ?_, fun xs e => ?_⟩
    · subst e
      have r : Rep K H B c (.lst xs) v := r
      simp only [Rep] at r
      exact r
    · subst e
      have r : Rep K H B c (.tup xs) v := r
      simp only [Rep] at r
      exact r
theorem isTup_tg {tg : Expr} (h : isTupTg tg = true) : ∃ a b d, tg = .Tuple a b d := by
  cases tg with
  | Tuple a b d => exact ⟨a, b, d, rfl⟩
  | _ => cases h
def mz (z : Bool) : Md := if z then .w else .s
theorem isW_mz (z : Bool) : isW (mz z) = z := by cases z <;> rfl
theorem ok_mz {z : Bool} {e : Py.E} : okM (mz z) e := by cases z <;> exact fun z => nomatch z
theorem res_mz {z : Bool} {B : Bn} {H H' : Hp} {t : Tr} {v : V} (r : Res (mz z) K H H' B c t v) : if z then RepW K H' B c t v else Rep K H' B c t v := by cases z <;> exact r
theorem sndI_enum (F : Facts C P w K mg base g lv c) {a : Py.E} (ha : SN C P w K mg base g lv c a) : SndI C P w K mg base g lv c (.enum a) := by
  refine ⟨fun X sc tg x z G h => ?_, fun X sc x G hh h => by cases hh⟩
  unfold chkIt at h
  split at h
  · obtain ⟨h1, h2, h3, h4⟩ := andB4 h
    have e := of_decide_eq_true h2
    subst e
    obtain ⟨g1, g2, g3⟩ := glOk_inv h3
    obtain ⟨ta, tb, td, rfl⟩ := isTup_tg h1
    refine PI.imp (pi_enumA (glo_ok G.sc g1) (by rw [G.mg]; exact F.free _ g3) (pa_cons (ha.pe X sc _ (mz z) G h4 ok_mz) pa_nil (star_of h4 [] X.env)) (star_of h4 [] X.env)) fun σ H R ⟨B, env, hH, ev, hw⟩ => ?_
    refine ⟨B, env, hH, ev.mono fun i q => by rw [isW_mz] at q; exact q, (wp_and.mp (wp_and.mp hw)).mono fun t ht v H1 x1 k1 r1 => ?_⟩
    have r1 := seq_top (res_mz r1)
    cases t with
    | lst xs =>
      obtain ⟨a, vs, rfl, na, nz, ha', l⟩ := r1.1 xs rfl
      rw [G.K]
      exact ⟨a, vs, rfl, .inl ⟨SqL.of ha', (show ∀ J H1, Ext c H H1 → CupOk H1 c → (∀ B', (∀ a, B' a → B a ∨ H1 a = none) → (∀ a, Zof z B a → B' a) → Wk K B' (Zof z B) c J (Py.enumL 0 xs) H1) → R J H1 from ht) _ H1 x1 k1 (fun B' hb hz => Wk.enum hz na nz ha' (l.chg hb))⟩⟩
    | tup xs =>
      obtain ⟨a, vs, rfl, na, ha', l⟩ := r1.2 xs rfl
      rw [G.K]
      exact ⟨a, vs, rfl, .inr ⟨SqT.of ha', (show ∀ J H1, Ext c H H1 → CupOk H1 c → (∀ B', (∀ a, B' a → B a ∨ H1 a = none) → (∀ a, Zof z B a → B' a) → Wk K B' (Zof z B) c J (Py.enumL 0 xs) H1) → R J H1 from ht) _ H1 x1 k1 (fun B' hb hz => Wk.enumT hz na ha' (l.chg hb))⟩⟩
    | _ => exact False.elim ht
  · cases h
theorem zip_inv {t u : Tr} {R : List Tr → Prop} (h : WP (Py.zipM t u) R) : ∃ xs ys, ((t = .lst xs ∧ u = .lst ys) ∨ (t = .tup xs ∧ u = .tup ys)) ∧ R (Py.zipL xs ys) := by
  cases t with
  | lst xs => cases u with
    | lst ys => exact ⟨xs, ys, .inl ⟨rfl, rfl⟩, h⟩
    | _ => exact False.elim h
  | tup xs => cases u with
    | tup ys => exact ⟨xs, ys, .inr ⟨rfl, rfl⟩, h⟩
    | _ => exact False.elim h
  | _ => exact False.elim h
theorem sndI_zip (F : Facts C P w K mg base g lv c) {a b : Py.E} (ha : SN C P w K mg base g lv c a) (hb : SN C P w K mg base g lv c b) : SndI C P w K mg base g lv c (.zip2 a b) := by
  refine ⟨fun X sc tg x z G h => ?_, fun X sc x G hh h => by cases hh⟩
  unfold chkIt at h
  split at h
  · rename_i x' q y y2 p
    obtain ⟨h0, h4, h5⟩ := andB3 h
    obtain ⟨h1, h2, h3⟩ := andB3 h0
    have e := of_decide_eq_true h2
    subst e
    obtain ⟨g1, g2, g3⟩ := glOk_inv h3
    obtain ⟨ta, tb, td, rfl⟩ := isTup_tg h1
    refine PI.imp (RZ.pi_zipA (glo_ok G.sc g1) (by rw [G.mg]; exact F.free _ g3) (pa_cons (ha.pe X sc y (mz z) G h4 ok_mz) (pa_cons (hb.pe X sc y2 (mz z) G h5 ok_mz) pa_nil (star_of h5 [] X.env)) (star_of h4 [y2] X.env)) (star_of h4 [y2] X.env) (by rw [star_of h5 [] X.env]; rfl)) fun σ H R ⟨B, env, hH, ev, hw⟩ => ?_
    have hw := wp_and.mp (wp_and.mp hw)
    refine ⟨B, env, hH, ev.mono fun i q => by rw [isW_mz] at q; simp [esc, q], hw.mono fun t ht v H1 x1 k1 r1 => ?_⟩
    have hH1 := hH.ext x1 k1
    refine ⟨B, env, hH1, (ev.ext x1).mono fun i q => by rw [isW_mz] at q; simp [esc, q], (wp_and.mp ht).mono fun u hu v2 H2 x2 k2 r2 => ?_⟩
    obtain ⟨xs, ys, cs, q⟩ := zip_inv (wp_and.mp hu)
    have q : ∀ J H1, Ext c H H1 → CupOk H1 c → (∀ B', (∀ a, B' a → B a ∨ H1 a = none) → (∀ a, Zof z B a → B' a) → Wk K B' (Zof z B) c J (Py.zipL xs ys) H1) → R J H1 := q
    have r1 := seq_top (res_mz r1)
    have r2 := seq_top (res_mz r2)
    rw [G.K]
    rcases cs with ⟨rfl, rfl⟩ | ⟨rfl, rfl⟩
    · obtain ⟨a, vs, rfl, na, nz, ha', l⟩ := r1.1 xs rfl
      obtain ⟨a2, vs2, rfl, na2, nz2, ha2, l2⟩ := r2.1 ys rfl
      have ha' := x2 a _ ha' na
      exact ⟨a, a2, vs, vs2, rfl, .inl ⟨SqL.of ha', SqL.of ha2, q _ H2 (x1.trans x2) k2 (fun B' hb hz => Wk.zipLL hz na nz ha' ((l.ext x2).chg hb) na2 nz2 ha2 (l2.chg hb))⟩⟩
    · obtain ⟨a, vs, rfl, na, ha', l⟩ := r1.2 xs rfl
      obtain ⟨a2, vs2, rfl, na2, ha2, l2⟩ := r2.2 ys rfl
      have ha' := x2 a _ ha' na
      exact ⟨a, a2, vs, vs2, rfl, .inr ⟨SqT.of ha', SqT.of ha2, q _ H2 (x1.trans x2) k2 (fun B' hb hz => Wk.zipTT hz na ha' ((l.ext x2).chg hb) na2 ha2 (l2.chg hb))⟩⟩
  · cases h
theorem den_rg {e : Py.E} (h : isRg e = true) (env : Py.Env) : Py.den C e env = (rgM C e env).bind fun p => Py.rngM p.1 p.2 := by
  cases e with
  | rng1 a =>
    show (Py.den C a env).bind (fun x => (Py.asI x).bind fun n => Py.rngM 0 n) = _
    simp only [rgM, Py.bind_assoc]
    rfl
  | rng2 a b =>
    show (Py.den C a env).bind (fun x => (Py.den C b env).bind fun y => (Py.asI x).bind fun i => (Py.asI y).bind fun j => Py.rngM i j) = _
    simp only [rgM, Py.bind_assoc]
    rfl
  | _ => cases h
theorem snd_rngs (F : Facts C P w K mg base g lv c) (b : Bool) {a : Py.E} (ha : SndI C P w K mg base g lv c a) : SndE C P w K mg base g lv c (.rngs b a) := by
  refine snd_val (fun X sc x m G h hm => ?_) (fun X sc x h whole => ?_) (fun _ _ => rfl)
  · unfold chk at h
    split at h
    · obtain ⟨h1, h2, h3, h4⟩ := andB4 h
      obtain ⟨g1, g2, g3⟩ := glOk_inv h1
      have e := of_decide_eq_true h2
      have pr := ha.rg X sc _ G h3 h4
      have st : ∀ y, chkIt g sc false a y = true → starEach [y] X.env = (false, eval y X.env) :: starEach [] X.env := by
        intro y hy
        cases a <;> cases y <;> first
          | rfl
          | cases hy
      cases b with
      | true =>
        rw [if_pos rfl] at e
        subst e
        refine PE.imp (pe_tupRg G.calm (glo_ok G.sc g1) (by rw [G.mg]; exact F.free _ g3) pr (st _ h4)) fun σ H Q ⟨B, env, hH, ev, hw⟩ => ?_
        have hw' : WP (rgM C a env) fun p => WP (Py.rngM p.1 p.2) fun t => WP (Py.itemsS t) fun xs => Post m K B c H Q (.tup xs) := by
          have := wp_and.mp hw
          rw [den_rg h3] at this
          exact (wp_and.mp this).mono fun p hp => hp.mono fun t ht => (wp_and.mp ht)
        refine ⟨B, env, hH, ev.mono (fun i q => by cases q), hw'.mono fun p hp H1 x1 k1 => ?_⟩
        obtain ⟨ok, q⟩ := rngM_wp hp
        exact ⟨ok, fun q' hq => ((show Post m K B c H Q (.tup (rgT p.1 p.2)) from q).toF hH x1 k1).newT (hH.ext x1 k1) hq (rgT_rep _ _ _)⟩
      | false =>
        rw [if_neg Bool.false_ne_true] at e
        subst e
        refine PE.imp (pe_listRg G.calm (glo_ok G.sc g1) (by rw [G.mg]; exact F.free _ g3) pr (st _ h4)) fun σ H Q ⟨B, env, hH, ev, hw⟩ => ?_
        have hw' : WP (rgM C a env) fun p => WP (Py.rngM p.1 p.2) fun t => WP (Py.itemsS t) fun xs => Post m K B c H Q (.lst xs) := by
          have := wp_and.mp hw
          rw [den_rg h3] at this
          exact (wp_and.mp this).mono fun p hp => hp.mono fun t ht => (wp_and.mp ht)
        refine ⟨B, env, hH, ev.mono (fun i q => by cases q), hw'.mono fun p hp H1 x1 k1 => ?_⟩
        obtain ⟨ok, q⟩ := rngM_wp hp
        exact ⟨ok, fun q' hq => ((show Post m K B c H Q (.lst (rgT p.1 p.2)) from q).toF hH x1 k1).newL (hH.ext x1 k1) hq (rgT_rep _ _ _)⟩
    · cases h
  · unfold chk at h
    split at h
    · rfl
    · cases h
end
end Snd

set_option Elab.async false
set_option linter.all false
set_option maxRecDepth 100000
set_option maxHeartbeats 2000000
namespace Snd
open PySem PySem.Spec L2
open PyProof.Rows hiding St

/-- i is one of the target's slots -/
def tgtIn : Py.Tgt → Nat → Bool
  | .n j, i => i == j
  | .nil, _ => false
  | .cons a r, i => tgtIn a i || tgtIn r i
theorem setv_length : ∀ (env : Py.Env) (i : Nat) (t : Tr), (Py.setv env i t).length = env.length
  | [], _, _ => rfl
  | _ :: r, 0, _ => rfl
  | _ :: r, n + 1, t => by simp [Py.setv, setv_length r n t]
theorem setv_get : ∀ (env : Py.Env) (i : Nat) (t : Tr) (j : Nat), (Py.setv env i t)[j]? = if j = i ∧ i < env.length then some (some t) else env[j]?
  | [], i, t, j => by simp [Py.setv]
  | x :: r, 0, t, 0 => by simp [Py.setv]
  | x :: r, 0, t, j + 1 => by simp [Py.setv]
  | x :: r, n + 1, t, 0 => by simp [Py.setv]
  | x :: r, n + 1, t, j + 1 => by simp [Py.setv, setv_get r n t j]
theorem Ev.set {K : PySem.W.Frag} {c : Addr} {es : Nat → Bool} {B : Bn} {σ : L2.St} {H : Hp} {env : Py.Env} (h : Ev K c es B σ H env) {t : Tr} {v : V} (i : Nat) (r : Rep K H B c t v) : Ev K c (fun j => es j || j == i) B (σ.set i (some v)) H (Py.setv env i t) := by
  refine ⟨fun j u e => ?_, by rw [setv_length, List.length_set]; exact h.len⟩
  rw [setv_get] at e
  by_cases q : j = i ∧ i < env.length
  · rw [if_pos q] at e
    cases e
    obtain ⟨rfl, ql⟩ := q
    refine ⟨v, by rw [List.getElem?_set_self (by rw [← h.len]; exact ql)], r.weak, fun _ => r⟩
  · rw [if_neg q] at e
    obtain ⟨v', h1, h2, h3⟩ := h.get j u e
    have ne : i ≠ j := fun z => q ⟨z.symm, by
      subst z
      have := (List.getElem?_eq_some_iff.mp h1).1
      rw [h.len]; exact this⟩
    refine ⟨v', by rw [List.getElem?_set_ne ne]; exact h1, h2, fun z => h3 ?_⟩
    simpa [Ne.symm ne] using z
theorem wipe_set {σ : L2.St} {i : Nat} {v : Option V} : ∀ {vs : List Nat}, i ∈ vs → wipe (σ.set i v) vs = wipe σ vs
  | [], h => by cases h
  | w :: vs, h => by
    unfold wipe
    by_cases hw : i ∈ vs
    · rw [wipe_set hw]
    · have e : i = w := by
        cases h with
        | head => rfl
        | tail _ q => exact absurd q hw
      subst e
      have key : ∀ (vs : List Nat) (σ : L2.St), i ∉ vs → wipe (σ.set i v) vs = (wipe σ vs).set i v := by
        intro vs
        induction vs with
        | nil => intro σ _; rfl
        | cons w vs ih =>
          intro σ hn
          have h1 : w ≠ i := fun e => hn (by rw [e]; exact List.mem_cons_self ..)
          have h2 : i ∉ vs := fun m => hn (List.mem_cons_of_mem _ m)
          unfold wipe
          rw [ih σ h2, List.set_comm _ _ h1.symm]
      rw [key vs σ hw, List.set_set]
theorem wipe1_get : ∀ (env : Py.Env) (i j : Nat), (Py.wipe1 env i)[j]? = if j = i ∧ i < env.length then some none else env[j]?
  | [], i, j => by simp [Py.wipe1]
  | x :: r, 0, 0 => by simp [Py.wipe1]
  | x :: r, 0, j + 1 => by simp [Py.wipe1]
  | x :: r, n + 1, 0 => by simp [Py.wipe1]
  | x :: r, n + 1, j + 1 => by simp [Py.wipe1, wipe1_get r n j]
theorem wipe1_length : ∀ (env : Py.Env) (i : Nat), (Py.wipe1 env i).length = env.length
  | [], _ => rfl
  | _ :: r, 0 => rfl
  | _ :: r, n + 1 => by simp [Py.wipe1, wipe1_length r n]
theorem wipev_length (env : Py.Env) : ∀ vs : List Nat, (Py.wipev env vs).length = env.length
  | [] => rfl
  | v :: vs => by unfold Py.wipev; rw [wipe1_length, wipev_length env vs]
theorem wipev_get (env : Py.Env) : ∀ (vs : List Nat) (j : Nat) (t : Tr), (Py.wipev env vs)[j]? = some (some t) → env[j]? = some (some t) ∧ j ∉ vs
  | [], j, t, h => ⟨h, by simp⟩
  | v :: vs, j, t, h => by
    unfold Py.wipev at h
    rw [wipe1_get] at h
    by_cases q : j = v ∧ v < (Py.wipev env vs).length
    · rw [if_pos q] at h; cases h
    · rw [if_neg q] at h
      obtain ⟨h1, h2⟩ := wipev_get env vs j t h
      refine ⟨h1, fun m => ?_⟩
      rcases List.mem_cons.mp m with e | m
      · have : j < (Py.wipev env vs).length := (List.getElem?_eq_some_iff.mp h).1
        exact q ⟨e, by rw [← e]; exact this⟩
      · exact h2 m
theorem Ev.wipe {K : PySem.W.Frag} {c : Addr} {es : Nat → Bool} {B : Bn} {σ : L2.St} {H : Hp} {env : Py.Env} (h : Ev K c es B σ H env) (vs : List Nat) : Ev K c (fun j => es j || vs.contains j) B (wipe σ vs) H (Py.wipev env vs) := by
  refine ⟨fun j t e => ?_, by rw [wipev_length, wipe_length]; exact h.len⟩
  obtain ⟨e1, e2⟩ := wipev_get env vs j t e
  obtain ⟨v, h1, h2, h3⟩ := h.get j t e1
  refine ⟨v, by rw [wipe_out e2]; exact h1, h2, fun q => h3 ?_⟩
  simpa [e2] using q
section
variable (K : PySem.W.Frag) (c : Addr)
/-- the target takes the tree -/
def tG (x : Py.Tgt) : TG := fun v σ H Q => ∃ (B : Bn) (es : Nat → Bool) (t : Tr) (env : Py.Env), Ev K c es B σ H env ∧ Rep K H B c t v ∧
  WP (Py.bindT x t env) (fun env' => ∀ σ', (∀ vs : List Nat, tgtSub x vs = true → wipe σ' vs = wipe σ vs) → (∀ j, tgtIn x j = false → σ'[j]? = σ[j]?) → Ev K c (fun j => es j || tgtIn x j) B σ' H env' → Q σ' H)
def tGs (x : Py.Tgt) : TGs := fun us σ H Q => ∃ (B : Bn) (es : Nat → Bool) (ts : List Tr) (env : Py.Env), Ev K c es B σ H env ∧ RepL K H B c ts us ∧
  WP (Py.bindT x (.tup ts) env) (fun env' => ∀ σ', (∀ vs : List Nat, tgtSub x vs = true → wipe σ' vs = wipe σ vs) → (∀ j, tgtIn x j = false → σ'[j]? = σ[j]?) → Ev K c (fun j => es j || tgtIn x j) B σ' H env' → Q σ' H)
end
theorem PG.imp {X : L2.Cx} {e : Expr} {t t' : TG} (h : PG X e t) (i : ∀ v σ H Q, t' v σ H Q → t v σ H Q) : PG X e t' := ⟨fun pins s σ H v u Q I r hw => h.run pins s σ H v u Q I r (i v σ H Q hw)⟩
theorem PGs.imp {X : L2.Cx} {es : List Expr} {t t' : TGs} (h : PGs X es t) (i : ∀ v σ H Q, t' v σ H Q → t v σ H Q) : PGs X es t' := ⟨fun pins s σ H v u Q I r hw => h.run pins s σ H v u Q I r (i v σ H Q hw)⟩
/-- where the names of a target lie -/
structure GoodT (g : Gx) (rs : Scope) (X : L2.Cx) : Prop where
  N : X.N = g.N
  nd : X.N.Nodup
  calm : X.calm = true
  loc : ∀ x, locB rs x = true → Loc X.env.scope x ∧ (X.fn x = true ∨ X.env.scope.names.lookup x = some .local)
theorem nameT {x : Expr} {a : Py.Tgt} {g : Gx} {rs : Scope} (h : chkT g rs a x = true) (env : Env) : ∀ xs, assignEach (x :: xs) env = (false, assign x env) :: assignEach xs env := by
  intro xs
  cases x with
  | Starred y p => cases a <;> cases h
  | _ => rfl
section
variable {K : PySem.W.Frag} {c : Addr} {g : Gx} {rs : Scope} {X : L2.Cx}
theorem assignEach_ok {env : Env} : ∀ {a : Py.Tgt} {es : List Expr}, chkTs g rs a es = true → (assignEach es env).length = es.length ∧ (assignEach es env).findIdx? (·.1) = none
  | .nil, [], _ => ⟨rfl, rfl⟩
  | .cons a r, e :: es, h => by
    obtain ⟨h1, h2⟩ := andB (show (chkT g rs a e && chkTs g rs r es) = true from h)
    rw [nameT h1]
    obtain ⟨i1, i2⟩ := assignEach_ok (env := env) h2
    exact ⟨by simp [i1], by simp [List.findIdx?_cons, i2]⟩
  | .nil, _ :: _, h => by cases h
  | .cons _ _, [], h => by cases h
  | .n _, [], h => by cases h
  | .n _, _ :: _, h => by cases h
theorem bindT_len : ∀ (x : Py.Tgt) (es : List Expr) (ts : List Tr) (env : Py.Env) (R : Py.Env → Prop), chkTs g rs x es = true → WP (Py.bindT x (.tup ts) env) R → es.length = ts.length := by
  intro x
  induction x with
  | n i => intro es ts env R h; cases es <;> cases h
  | nil =>
    intro es ts env R h hw
    cases es with
    | nil => cases ts with
      | nil => rfl
      | cons _ _ => exact False.elim hw
    | cons _ _ => cases h
  | cons a r _ ih =>
    intro es ts env R h hw
    cases es with
    | nil => cases h
    | cons e es =>
      cases ts with
      | nil => exact False.elim hw
      | cons t ts =>
        obtain ⟨_, h2⟩ := andB (show (chkT g rs a e && chkTs g rs r es) = true from h)
        have hw : WP (Py.bindT a t env) fun env' => WP (Py.bindT r (.tup ts) env') R := wp_and.mp hw
        by_cases hl : es.length = ts.length
        · simp [hl]
        · exfalso
          exact wp_false (WP.mono hw fun env' hq => hl (ih es ts env' _ h2 hq))
theorem tgt_all (G : GoodT g rs X) (hK : X.K = K) (x : Py.Tgt) : (∀ e : Expr, chkT g rs x e = true → PG X e (tG K c x)) ∧ ∀ es : List Expr, chkTs g rs x es = true → PGs X es (tGs K c x) := by
  induction x with
  | n i =>
    refine ⟨fun e h => ?_, fun es h => (by cases es <;> cases h)⟩
    cases e with
    | Name y p =>
      obtain ⟨h1, h2, h3⟩ := andB3 (show (decide (g.N[i]? = some y) && locB rs y && decide (i < g.N.length)) = true from h)
      obtain ⟨l1, l2⟩ := G.loc y h2
      refine PG.imp (pg_name G.nd (by rw [G.N]; exact of_decide_eq_true h1) l1 l2) fun v σ H Q ⟨B, es, t, env, ev, r, hw⟩ => ?_
      have hw : ∀ σ', (∀ vs : List Nat, tgtSub (.n i) vs = true → wipe σ' vs = wipe σ vs) → (∀ j, tgtIn (.n i) j = false → σ'[j]? = σ[j]?) → Ev K c (fun j => es j || tgtIn (.n i) j) B σ' H (Py.setv env i t) → Q σ' H := hw
      exact hw _ (fun vs hv => wipe_set (by simpa [tgtSub] using hv)) (fun j hj => List.getElem?_set_ne (fun z => by simp [tgtIn, z] at hj)) (ev.set i r)
    | _ => cases h
  | nil =>
    refine ⟨fun e h => (by cases e <;> cases h), fun es h => ?_⟩
    cases es with
    | nil =>
      refine PGs.imp pgs_nil fun us σ H Q ⟨B, es, ts, env, ev, l, hw⟩ => ?_
      cases ts with
      | nil =>
        refine ⟨l.inv_nil, ?_⟩
        have hw : ∀ σ', (∀ vs : List Nat, tgtSub .nil vs = true → wipe σ' vs = wipe σ vs) → (∀ j, tgtIn .nil j = false → σ'[j]? = σ[j]?) → Ev K c (fun j => es j || tgtIn .nil j) B σ' H env → Q σ' H := hw
        exact hw σ (fun _ _ => rfl) (fun _ _ => rfl) (ev.mono fun i q => by simpa [tgtIn] using q)
      | cons _ _ => exact False.elim hw
    | cons _ _ => cases h
  | cons a r iha ihr =>
    have two : ∀ es : List Expr, chkTs g rs (.cons a r) es = true → PGs X es (tGs K c (.cons a r)) := by
      intro es h
      cases es with
      | nil => cases h
      | cons e es =>
        obtain ⟨h1, h2⟩ := andB (show (chkT g rs a e && chkTs g rs r es) = true from h)
        refine PGs.imp (pgs_cons (iha.1 e h1) (ihr.2 es h2) (by rw [nameT h1]; rfl)) fun us σ H Q ⟨B, es', ts, env, ev, l, hw⟩ => ?_
        cases ts with
        | nil => exact False.elim hw
        | cons t ts =>
          obtain ⟨v, w, rfl, r1, l1⟩ := l.inv_cons
          have hw := wp_and.mp (show WP ((Py.bindT a t env).bind fun env' => Py.bindT r (.tup ts) env') _ from hw)
          refine ⟨v, w, rfl, B, es', t, env, ev, r1, hw.mono fun env1 h1 σ1 w1 k1 e1 => ?_⟩
          refine ⟨B, _, ts, env1, e1, l1, WP.mono h1 fun env2 h2 σ2 w2 k2 e2 => ?_⟩
          refine h2 σ2 (fun vs hv => ?_) (fun j hj => ?_) (e2.mono fun j q => by simpa [tgtIn, Bool.or_assoc] using q)
          · obtain ⟨v1, v2⟩ := andB (show (tgtSub a vs && tgtSub r vs) = true from hv)
            rw [w2 vs v2, w1 vs v1]
          · simp only [tgtIn, Bool.or_eq_false_iff] at hj
            rw [k2 j hj.2, k1 j hj.1]
    refine ⟨fun e h => ?_, two⟩
    cases e with
    | Tuple es k p =>
      cases es with
      | nil => cases h
      | cons e es =>
        have h' : chkTs g rs (.cons a r) (e :: es) = true := h
        obtain ⟨l1, l2⟩ := assignEach_ok (env := X.env) h'
        refine PG.imp (pg_tup G.calm (two _ h') l1 l2) fun v σ H Q ⟨B, es', t, env, ev, rr, hw⟩ => ?_
        cases t with
        | tup ts =>
          simp only [Rep] at rr
          obtain ⟨a', vs, rfl, na, ha, l⟩ := rr
          refine ⟨a', vs, rfl, by rw [hK]; exact SqT.of ha, ?_, B, es', ts, env, ev, l, hw⟩
          rw [← l.length]
          exact (bindT_len _ _ _ _ _ h' hw).symm
        | _ => exact False.elim hw
    | _ => cases h
end
end Snd

set_option Elab.async false
set_option linter.all false
set_option maxRecDepth 100000
set_option maxHeartbeats 2000000
namespace Snd
open PySem PySem.Spec L2
open PyProof.Rows hiding St

theorem wipe_in {σ : L2.St} {i : Nat} : ∀ {vs : List Nat}, i ∈ vs → (wipe σ vs)[i]? = (σ[i]?).map fun _ => none
  | v :: vs, h => by
    unfold wipe
    by_cases e : v = i
    · subst e
      by_cases hl : v < (wipe σ vs).length
      · rw [List.getElem?_set_self hl]
        rw [wipe_length] at hl
        simp [hl]
      · rw [List.getElem?_eq_none (by rw [List.length_set]; omega)]
        rw [wipe_length] at hl
        rw [List.getElem?_eq_none (by omega)]; rfl
    · rw [List.getElem?_set_ne e]
      rcases List.mem_cons.mp h with q | q
      · exact absurd q.symm e
      · exact wipe_in q
theorem wipe_wipe (σ : L2.St) (vs : List Nat) : wipe (wipe σ vs) vs = wipe σ vs := by
  refine List.ext_getElem? fun i => ?_
  by_cases h : i ∈ vs
  · rw [wipe_in h, wipe_in h]
    cases σ[i]? <;> rfl
  · rw [wipe_out h]
section
variable {K : PySem.W.Frag} {c : Addr} {C : Py.Cx}
theorem bindT_out : ∀ (x : Py.Tgt) {t : Tr} {env : Py.Env} {R : Py.Env → Prop}, WP (Py.bindT x t env) R → WP (Py.bindT x t env) fun e' => (∀ j, tgtIn x j = false → e'[j]? = env[j]?) ∧ R e' := by
  intro x
  induction x with
  | n i =>
    intro t env R h
    refine ⟨fun j hj => ?_, h⟩
    rw [setv_get, if_neg]
    rintro ⟨e, _⟩
    simp [tgtIn, e] at hj
  | nil =>
    intro t env R h
    cases t with
    | tup xs => cases xs with
      | nil => exact ⟨fun _ _ => rfl, h⟩
      | cons _ _ => exact False.elim h
    | _ => exact False.elim h
  | cons a r iha ihr =>
    intro t env R h
    cases t with
    | tup xs => cases xs with
      | nil => exact False.elim h
      | cons x xs =>
        refine wp_and.mpr ((iha (wp_and.mp (show WP ((Py.bindT a x env).bind fun env => Py.bindT r (.tup xs) env) R from h))).mono fun e1 ⟨k1, h1⟩ => (ihr h1).mono fun e2 ⟨k2, h2⟩ => ⟨fun j hj => ?_, h2⟩)
        simp only [tgtIn, Bool.or_eq_false_iff] at hj
        rw [k2 j hj.2, k1 j hj.1]
    | _ => exact False.elim h
/-- one walk of a comprehension: acc is what has been made, S tells how it stands -/
theorem comp_it {α : Type} {J : It} {ts : List Tr} {B' Z : Bn} {H1 : Hp} (w : Wk K B' Z c J ts H1) {x : Py.Tgt} {vs : List Nat} {cnd : Py.E} {el : Py.Env → α → Py.M α} {env0 : Py.Env} {σ : L2.St} {es : Nat → Bool} {S : α → Hp → Prop}
    (hS1 : ∀ acc H, S acc H → Kept Z c H1 H ∧ CupOk H c) (hS2 : ∀ acc H H', S acc H → Ext c H H' → CupOk H' c → S acc H') (hEv : ∀ acc H, S acc H → Ev K c es B' (wipe σ vs) H env0) (hsub : tgtSub x vs = true)
    {tt : TT} (htt : ∀ (σ2 : L2.St) (H2 : Hp) (e1 : Py.Env) (Q : Bool → Hp → Prop), Here B0 c H2 → Ev K c (fun _ => true) B0 σ2 H2 e1 → WP ((Py.den C cnd e1).bind Py.asB) (fun b => ∀ H3, Ext c H2 H3 → CupOk H3 c → Q b H3) → tt σ2 H2 Q)
    {body : L2.St → Hp → (Hp → Prop) → Prop}
    (hb : ∀ (σ2 : L2.St) (H3 : Hp) (e1 : Py.Env) (acc : α) (Rn : α → Prop) (Nx : Hp → Prop), Ev K c (fun j => es j || tgtIn x j) B' σ2 H3 e1 → (∀ j, tgtIn x j = false → e1[j]? = env0[j]? ∧ σ2[j]? = (wipe σ vs)[j]?) → S acc H3 → WP (el e1 acc) Rn → (∀ acc' H', S acc' H' → Rn acc' → Nx H') → body σ2 H3 Nx)
    {R : α → Prop} {Fin : Hp → Prop} (hfin : ∀ acc H, S acc H → R acc → Fin H) {acc0 : α} {H0 : Hp} (h0 : S acc0 H0) (hw : WP (Py.compL (Py.bindT x) (Py.den C cnd) el env0 ts acc0) R) :
    ∃ W : Nat → Nat → Hp → Prop, (∃ m, W 0 m H0) ∧ ∀ i m H, W i m H → (J.stop i H ∧ Fin H) ∨ (J.go i H ∧ ∃ Nx : Hp → Prop, (∀ H', Nx H' → ∃ m', m' < m ∧ W (i + 1) m' H') ∧
      ∀ x' H', J.yld i H x' H' → tG K c x x' (wipe σ vs) H' fun σ2 H2 => wipe σ2 vs = wipe σ vs ∧ tt σ2 H2 fun b H3 => if b = true then body σ2 H3 Nx else Nx H3) := by
  refine ⟨fun i m H => m = ts.length - i ∧ i ≤ ts.length ∧ ∃ acc, S acc H ∧ WP (Py.compL (Py.bindT x) (Py.den C cnd) el env0 (ts.drop i) acc) R, ⟨ts.length, by simp, Nat.zero_le _, acc0, h0, by simpa using hw⟩, ?_⟩
  rintro i m H ⟨rfl, hi, acc, hs, hw⟩
  obtain ⟨kp, kc⟩ := hS1 acc H hs
  by_cases hlt : i < ts.length
  · have hd : ts.drop i = ts[i] :: ts.drop (i + 1) := (List.getElem_cons_drop hlt).symm
    rw [hd] at hw
    have hw : WP (Py.bindT x ts[i] env0) fun e1 => WP ((Py.den C cnd e1).bind Py.asB) fun b => WP (if b then el e1 acc else .ret acc) fun acc => WP (Py.compL (Py.bindT x) (Py.den C cnd) el env0 (ts.drop (i + 1)) acc) R := by
      have := wp_and.mp hw
      exact this.mono fun e1 h1 => wp_and.mpr ((wp_and.mp h1).mono fun b hb => (wp_and.mp hb).mono fun b hb => wp_and.mp hb)
    refine .inr ⟨w.goes i H hlt kp, fun H' => ∃ acc', S acc' H' ∧ WP (Py.compL (Py.bindT x) (Py.den C cnd) el env0 (ts.drop (i + 1)) acc') R, fun H' ⟨acc', s', q⟩ => ⟨_, by omega, rfl, hlt, acc', s', q⟩, fun x' H' y => ?_⟩
    obtain ⟨x1, k1, t, ht, rt⟩ := w.yields i H x' H' hlt kp kc y
    have et : t = ts[i] := by simpa [hlt] using ht.symm
    subst et
    have s1 := hS2 acc H H' hs x1 k1
    refine ⟨B', es, _, env0, hEv acc H' s1, rt, (bindT_out x hw).mono fun e1 ⟨ho, h1⟩ σ2 w2 hq ev2 => ⟨by rw [w2 vs hsub, wipe_wipe], ?_⟩⟩
    refine htt σ2 H' e1 _ ⟨k1, fun _ z => z.elim⟩ ev2.free (h1.mono fun b hb' H3 x3 k3 => ?_)
    have s3 := hS2 acc H' H3 s1 x3 k3
    cases b with
    | true =>
      rw [if_pos rfl] at hb' ⊢
      exact hb σ2 H3 e1 acc _ _ (ev2.ext x3) (fun j hj => ⟨ho j hj, hq j hj⟩) s3 hb' fun acc' H4 s4 q => ⟨acc', s4, q⟩
    | false =>
      rw [if_neg Bool.false_ne_true] at hb' ⊢
      exact ⟨acc, s3, hb'⟩
  · have e : i = ts.length := by omega
    subst e
    refine .inl ⟨w.stops H kp, hfin acc H hs ?_⟩
    simpa [Py.compL] using hw
end
section
variable {C : Py.Cx} {P : Program} {w : World} {K : PySem.W.Frag} {mg : Str → Option Value} {base : Heap} {g : Gx} {lv : Nat} {c : Addr}
theorem Good.blk {X : L2.Cx} {sc : Scope} (G : Good P w K mg base g lv X sc) (s : Shared) (H : Hp) (scope : Scope) (cl : List (Str × Addr)) (D : Addr) (fp : List Addr) : Good P w K mg base g lv (X.blk s H scope (compEnvC scope cl D X.env) fp) (relS scope sc) where
  prog := G.prog
  wd := G.wd
  K := G.K
  mg := G.mg
  base := G.base
  sc := by
    show relS scope X.env.scope = _
    rw [G.sc]
  N := G.N
  nd := G.nd
  calm := G.calm
  room := G.room
theorem Good.blkT {X : L2.Cx} {sc : Scope} (G : Good P w K mg base g lv X sc) (s : Shared) (H : Hp) (scope : Scope) (cl : List (Str × Addr)) (D : Addr) (fp : List Addr) : GoodT g scope (X.blk s H scope (compEnvC scope cl D X.env) fp) where
  N := G.N
  nd := G.nd'
  calm := G.calm
  loc := fun x h => by
    unfold locB at h
    cases q : scope.names.lookup x with
    | none => rw [q] at h; cases h
    | some k =>
      rw [q] at h
      have keep : k ≠ .free → (relS scope X.env.scope).names.lookup x = some k := fun nf => lookup_relS_keep nf q
      cases k with
      | «local» =>
        have e := keep (fun z => nomatch z)
        exact ⟨.inl e, .inr e⟩
      | cell =>
        have e := keep (fun z => nomatch z)
        exact ⟨.inr e, .inl (by show (scope.names.lookup x == some .cell) = true; rw [q]; rfl)⟩
      | _ => cases h
/-- the tests of a clause -/
theorem tests_of {d : Py.E} (hd : SN C P w K mg base g lv c d) {ifs : List Expr} {sc' : Scope} (h : ifsB (chk g sc' d) ifs d = true) :
    ∃ tt : TT, (∀ X, Good P w K mg base g lv X sc' → PTs X ifs tt) ∧ ∀ (σ2 : L2.St) (H2 : Hp) (e1 : Py.Env) (Q : Bool → Hp → Prop), Here B0 c H2 → Ev K c (fun _ => true) B0 σ2 H2 e1 → WP ((Py.den C d e1).bind Py.asB) (fun b => ∀ H3, Ext c H2 H3 → CupOk H3 c → Q b H3) → tt σ2 H2 Q := by
  match ifs, h with
  | [], h =>
    have e : d = .con (.bl true) := by
      unfold ifsB at h
      simp only at h
      split at h
      · rfl
      · cases h
    subst e
    exact ⟨tYes, fun X _ => pts_nil, fun σ2 H2 e1 Q hH ev hw => (show ∀ H3, Ext c H2 H3 → CupOk H3 c → Q true H3 from hw) H2 (Ext.refl c H2) hH.cup⟩
  | [u], h => exact ⟨tT C K c d, fun X G => pts_one (hd.pt X sc' u G h), fun σ2 H2 e1 Q hH ev hw => ⟨e1, hH, ev, hw⟩⟩
  | _ :: _ :: _, h => cases h
theorem fold_ok {e : Py.E} {x : Expr} {sc : Scope} {tb : Bool} (h : (chkIt g sc tb e x || chk g sc e x) = true) (env : Env) (v : Value) : foldedSetIterable x env v = pure v := by
  cases x with
  | Set a b d =>
    exfalso
    rcases Bool.or_eq_true_iff.mp h with h | h
    · cases e <;> cases h
    · cases e with
      | con t => cases t <;> cases h
      | _ => cases h
  | _ => rfl
/-- what is walked, by either check -/
theorem pi_both {e : Py.E} (he : SN C P w K mg base g lv c e) (hi : SndI C P w K mg base g lv c e) {X : L2.Cx} {sc : Scope} {tg x : Expr} (z : Bool) (G : Good P w K mg base g lv X sc) (h : (chkIt g sc (isTupTg tg) e x || chk g sc e x) = true) : PI X tg x (tI C K c z e) := by
  rcases Bool.or_eq_true_iff.mp h with h | h
  · exact hi.it X sc tg x z G h
  · exact pi_val G.K (he.pe X sc x _ G h (by cases z <;> exact fun z => nomatch z))
theorem blk_own {sc scope : Scope} {own : List Nat} (h : blkB g sc scope own = true) : BlkOk g.N sc scope (ownP g own) ∧ (ownP g own).map (·.2) = own := by
  obtain ⟨h1, h2⟩ := andB h
  exact ⟨blkOk_by h1, of_decide_eq_true h2⟩
/-- how the list that a comprehension makes stands -/
def SL (K : PySem.W.Frag) (c : Addr) (B : Bn) (D : Addr) (H1 : Hp) (acc : List Tr) (H : Hp) : Prop := Ext c H1 H ∧ CupOk H c ∧ ∃ vs, H D = some (.lst vs) ∧ RepL K H (fun a => B a ∨ a = D) c acc vs
theorem push_wp {x : Tr} {acc : List Tr} {R : List Tr → Prop} (h : WP (Py.push x acc) R) : acc.length < sizeLine ∧ R (acc ++ [x]) := by
  unfold Py.push at h
  obtain ⟨h1, h2⟩ := wp_ifs h
  exact ⟨by rw [← lim_line]; exact h1, h2⟩
theorem upd_kept {Z : Bn} {H : Hp} {D : Addr} {o : HO} (hD : Z D) (hn : ∀ vs, H D ≠ some (.tup vs)) (hs : H D ≠ none) : Kept Z c H (upd H D o) := by
  refine ⟨fun a vs e n => ?_, fun a u e n z => ?_⟩
  · rw [upd_ne (fun q => hn vs (by rw [← q]; exact e))]; exact e
  · rw [upd_ne (fun q => z (by rw [q]; exact hD))]; exact e
theorem upd_cup {H : Hp} {D : Addr} {o : HO} (k : CupOk H c) (n : D ≠ c) : CupOk (upd H D o) c := by
  obtain ⟨x, y, e, r⟩ := k
  exact ⟨x, y, by rw [upd_ne (Ne.symm n)]; exact e, r⟩
theorem SL.step {B : Bn} {D : Addr} {H1 H : Hp} {acc : List Tr} (hD : H1 D = none) (nc : D ≠ c) (s : SL K c B D H1 acc H) {t : Tr} {v : V} (r : Rep K H (fun a => B a ∨ a = D) c t v) : ∃ vs, H D = some (.lst vs) ∧ acc.length = vs.length ∧ SL K c B D H1 (acc ++ [t]) (upd H D (.lst (vs ++ [v]))) := by
  obtain ⟨x, k, vs, hd, l⟩ := s
  have kp : Kept (fun a => a = D) c H (upd H D (.lst (vs ++ [v]))) := upd_kept (Z := fun a => a = D) rfl (fun _ z => by rw [hd] at z; cases z) (by rw [hd]; exact fun z => nomatch z)
  refine ⟨vs, hd, l.length, fun a o e n => ?_, upd_cup k nc, _, upd_same, ?_⟩
  · rw [upd_ne (fun q => by rw [q, hD] at e; cases e)]; exact x a o e n
  · exact (l.kept kp fun a z => .inr z).append (.cons (r.kept kp fun a z => .inr z) .nil)
theorem SL.ext {B : Bn} {D : Addr} {H1 H H' : Hp} {acc : List Tr} (nc : D ≠ c) (s : SL K c B D H1 acc H) (x : Ext c H H') (k : CupOk H' c) : SL K c B D H1 acc H' := by
  obtain ⟨x0, k0, vs, hd, l⟩ := s
  exact ⟨x0.trans x, k, vs, x D _ hd nc, l.ext x⟩
theorem SL.here {B : Bn} {D : Addr} {H1 H : Hp} {acc : List Tr} (hH : Here B c H1) (s : SL K c B D H1 acc H) : Here (fun a => B a ∨ a = D) c H := by
  obtain ⟨x, k, vs, hd, l⟩ := s
  refine ⟨k, fun a b => ?_⟩
  rcases b with b | b
  · exact x.dom k a (hH.dom a b)
  · rw [b, hd]; exact fun z => nomatch z
theorem ban_new {B : Bn} {D : Addr} {H1 : Hp} (hD : H1 D = none) : ∀ a, (B a ∨ a = D) → B a ∨ H1 a = none := fun a b => b.elim .inl fun e => .inr (by rw [e]; exact hD)
/-- what the parts of a list comprehension are, and what it takes that it gives what it means -/
theorem lc_parts {it d el : Py.E} {x : Py.Tgt} {own : List Nat} (hit : SN C P w K mg base g lv c it) (hii : SndI C P w K mg base g lv c it) (hd : SN C P w K mg base g lv c d) (hel : SN C P w K mg base g lv c el) {X : L2.Cx} {sc : Scope} {ex tg iter : Expr} {ifs : List Expr} {j : Int} {scope : Scope} {pos : Pos}
    (G : Good P w K mg base g lv X sc) (h : chk g sc (.lc x it d own el) (.ListComp ex [⟨tg, iter, ifs, j⟩] scope pos) = true) : j = 0 ∧
    ∃ (wi : TI) (gg : TG) (tt : TT) (te : TE), PI X tg iter wi ∧ BlkOk X.N X.env.scope scope (ownP g own) ∧ (∀ (s : Shared) (H : Hp) (D : Addr) (cl : List (Str × Addr)) (fp : List Addr), PG (X.blk s H scope (compEnvC scope cl D X.env) fp) tg gg) ∧ (∀ (s : Shared) (H : Hp) (D : Addr) (cl : List (Str × Addr)) (fp : List Addr), PTs (X.blk s H scope (compEnvC scope cl D X.env) fp) ifs tt) ∧
      (∀ (s : Shared) (H : Hp) (D : Addr) (cl : List (Str × Addr)) (fp : List Addr), PE (X.blk s H scope (compEnvC scope cl D X.env) fp) ex te) ∧ (∀ v, foldedSetIterable iter X.env v = pure v) ∧ ∀ m σ H Q, tE C K c m (.lc x it d own el) σ H Q → tLc wi gg tt te ((ownP g own).map (·.2)) σ H Q := by
  obtain ⟨h0, h6, h7⟩ := andB3 (show (decide (j = 0) && (chkIt g sc (isTupTg tg) it iter || chk g sc it iter) && blkB g sc scope own && tgtSub x own && chkT g scope x tg && ifsB (chk g (relS scope sc) d) ifs d && chk g (relS scope sc) el ex) = true from h)
  obtain ⟨h0, h4, h5⟩ := andB3 h0
  obtain ⟨h1, h2, h3⟩ := andB3 h0
  refine ⟨of_decide_eq_true h1, ?_⟩
  obtain ⟨bo, eo⟩ := blk_own h3
  obtain ⟨tt, pts, htt⟩ := tests_of hd h6
  refine ⟨_, _, _, _, pi_both hit hii true G h2, by rw [G.N, G.sc]; exact bo, fun s H D cl fp => (tgt_all (c := c) (G.blkT s H scope cl D fp) G.K x).1 tg h5, fun s H D cl fp => pts _ (G.blk s H scope cl D fp), fun s H D cl fp => hel.pe _ _ ex .s (G.blk s H scope cl D fp) h7 (fun z => nomatch z), fun v => fold_ok h2 X.env v, fun m σ H Q ⟨B, env, hH, ev, hw⟩ => ?_⟩
  rw [eo]
  have hw : WP ((Py.den C it env).bind Py.itemsS) fun xs => WP (Py.compL (Py.bindT x) (Py.den C d) (fun e acc => (Py.den C el e).bind fun v => Py.push v acc) (Py.wipev env own) xs []) fun acc => Post m K B c H Q (.lst acc) := by
    refine wp_and.mpr ((wp_and.mp hw).mono fun t ht => (wp_and.mp ht).mono fun xs hx => ?_)
    exact Py.wp_shut ((wp_and.mp hx))
  refine ⟨B, env, hH, ev.mono fun i q => by simp [esc, q], hw.mono fun ts ht J H1 x1 k1 wk D hD => ?_⟩
  have hH1 := hH.ext x1 k1
  have nc := hH1.ne hD
  refine comp_it (S := SL K c B D H1) (es := fun j => esc (isW m) (.lc x it d own el) j || own.contains j) (wk (fun a => B a ∨ a = D) (ban_new hD) (fun a z => z.elim)) (fun acc H' s => ⟨s.1.kept s.2.1, s.2.1⟩) (fun acc H2 H3 s x k => s.ext nc x k) (fun acc H2 s => ((ev.ext x1).chg (ban_new hD)).ext s.1 |>.wipe own) h4 htt
    (fun σ2 H3 e1 acc Rn Nx ev2 _ s hr hn => ?_) (fun acc H2 s r => ?_) (acc0 := []) ⟨Ext.new hD, hH1.new hD, [], upd_same, RepL.nil⟩ ht
  · refine ⟨_, e1, s.here hH1, ev2.mono fun j q => ?_, (wp_and.mp hr).mono fun t hp v H4 x4 k4 r4 => ?_⟩
    · by_cases ho : own.contains j = true
      · simp only [ho, Bool.or_true, Bool.true_or]
      · have q : esc false el j = true := q
        have e : esc (isW m) (.lc x it d own el) j = (esc true it j || (esc false el j && !own.contains j)) := by cases m <;> rfl
        rw [e, q]
        simp only [Bool.not_eq_true] at ho
        simp only [ho, Bool.not_false, Bool.and_true, Bool.or_true, Bool.true_or]
    · obtain ⟨hl, hp⟩ := push_wp hp
      obtain ⟨vs, hd', l, s'⟩ := (s.ext nc x4 k4).step hD nc (show Rep K H4 _ c t v from r4)
      exact ⟨vs, hd', by rw [← l]; exact hl, hn _ _ s' hp⟩
  · obtain ⟨x2, k2, vs, hd', l⟩ := s
    refine r (.ref D) H2 (x1.trans x2) k2 (Fresh.res (B := B) hH (Ext.refl c H) hH.cup ?_)
    exact ⟨D, vs, rfl, x1.none k1 hD, hd', l⟩
theorem snd_lc {it d el : Py.E} (x : Py.Tgt) (own : List Nat) (hit : SN C P w K mg base g lv c it) (hii : SndI C P w K mg base g lv c it) (hd : SN C P w K mg base g lv c d) (hel : SN C P w K mg base g lv c el) : SndE C P w K mg base g lv c (.lc x it d own el) := by
  refine snd_val (fun X sc e m G h hm => ?_) (fun X sc e h whole => ?_) (fun _ _ => rfl)
  · have h' := h
    unfold chk at h'
    split at h'
    · obtain ⟨e, wi, gg, tt, te, p1, p2, p3, p4, p5, p6, p7⟩ := lc_parts hit hii hd hel G h
      subst e
      exact PE.imp (pe_lc G.calm G.nd' p1 p2 p3 p4 p5 p6) (p7 m)
    · cases h'
  · unfold chk at h
    split at h
    · rfl
    · cases h
theorem Ev.keptD {es : Nat → Bool} {B : Bn} {σ : L2.St} {H H' : Hp} {env : Py.Env} {D : Addr} (h : Ev K c es B σ H env) (hB : B D) (no : ∀ (i : Nat) (t : Tr), env[i]? = some (some t) → σ[i]? ≠ some (some (V.ref D))) (k : Kept (fun a => a = D) c H H') : Ev K c es B σ H' env := by
  refine ⟨fun i t e => ?_, h.len⟩
  obtain ⟨v, h1, h2, h3⟩ := h.get i t e
  have hz : ∀ a, a = D → B a := fun a e => by rw [e]; exact hB
  refine ⟨v, h1, ?_, fun q => (h3 q).kept k hz⟩
  have nv : v ≠ .ref D := fun e' => no i t e (by rw [← e']; exact h1)
  cases t with
  | lst xs =>
    obtain ⟨a, vs, e, n, s, l⟩ := wLst h2
    exact ⟨a, vs, e, n, k.oth a _ s n (fun q => nv (by rw [e, q])), l.kept k hz⟩
  | dct kvs =>
    obtain ⟨a, vs, e, n, l, s⟩ := h2
    have na : a ≠ D := fun q => nv (by rw [e, q])
    have rd : ∀ {u : HO} {ne : Prop}, RdD H a u ne → RdD H' a u ne := fun r => by
      rcases r with r | ⟨hh, o, r⟩
      · exact .inl (k.oth a _ r n na)
      · exact .inr ⟨hh, o, k.oth a _ r n na⟩
    refine ⟨a, vs, e, n, l.kept k hz, ?_⟩
    rcases s with ⟨ks, l1, l2, s⟩ | ⟨ks, l1, l2, s⟩
    · exact .inl ⟨ks, l1, l2, rd s⟩
    · exact .inr ⟨ks, l1, l2, rd s⟩
  | _ => exact Rep.kept k hz h2
theorem RepW.noref {B : Bn} {H : Hp} {t : Tr} {v : V} {D : Addr} (r : RepW K H B c t v) (hD : H D = none) (nc : D ≠ c) : v ≠ .ref D := by
  intro e
  subst e
  cases t with
  | lst xs => obtain ⟨a, vs, e, n, s, l⟩ := wLst r; cases e; rw [hD] at s; cases s
  | tup xs => obtain ⟨a, vs, e, n, s, l⟩ := wTup r; cases e; rw [hD] at s; cases s
  | dct kvs =>
    obtain ⟨a, vs, e, n, l, s⟩ := r
    cases e
    rcases s with ⟨ks, _, _, q | ⟨_, o, q⟩⟩ | ⟨ks, _, _, q | ⟨_, o, q⟩⟩ <;> rw [hD] at q <;> cases q
  | cup => exact nc (by have := wCup r; cases this; rfl)
  | set xs => simp only [RepW, Rep] at r
  | _ => simp [RepW, Rep] at r
/-- a strong value is not D, a banned list -/
theorem Rep.nolst {B : Bn} {H : Hp} {t : Tr} {v : V} {D : Addr} {ws : List V} (r : Rep K H B c t v) (hB : B D) (hL : H D = some (.lst ws)) (nc : D ≠ c) : v ≠ .ref D := by
  intro e
  subst e
  cases t with
  | lst xs => simp only [Rep] at r; obtain ⟨a, vs, e, n, b, s, l⟩ := r; cases e; exact b hB
  | tup xs => obtain ⟨a, vs, e, n, s, l⟩ := wTup r.weak; cases e; rw [hL] at s; cases s
  | dct kvs => simp only [Rep] at r; obtain ⟨a, vs, e, n, b, _⟩ := r; cases e; exact b hB
  | cup => exact nc (by have := wCup r.weak; cases this; rfl)
  | set xs => simp only [Rep] at r
  | _ => simp [Rep] at r
theorem lc2_parts {it d it1 d1 el : Py.E} {x x1 : Py.Tgt} {own own1 : List Nat} (hit : SN C P w K mg base g lv c it) (hii : SndI C P w K mg base g lv c it) (hd : SN C P w K mg base g lv c d) (hit1 : SN C P w K mg base g lv c it1) (hii1 : SndI C P w K mg base g lv c it1) (hd1 : SN C P w K mg base g lv c d1) (hel : SN C P w K mg base g lv c el) {X : L2.Cx} {sc : Scope} {ex tg iter tg1 iter1 : Expr} {ifs ifs1 : List Expr} {j j1 : Int} {scope : Scope} {pos : Pos}
    (G : Good P w K mg base g lv X sc) (h : chk g sc (.lc2 x it d x1 own1 it1 d1 own el) (.ListComp ex [⟨tg, iter, ifs, j⟩, ⟨tg1, iter1, ifs1, j1⟩] scope pos) = true) : j = 0 ∧ j1 = 0 ∧
    ∃ (wi wi1 : TI) (gg gg1 : TG) (tt tt1 : TT) (te : TE), PI X tg iter wi ∧ BlkOk X.N X.env.scope scope (ownP g own) ∧ (∀ i ∈ own1, i ∈ (ownP g own).map (·.2)) ∧ (∀ (s : Shared) (H : Hp) (D : Addr) (cl : List (Str × Addr)) (fp : List Addr), PG (X.blk s H scope (compEnvC scope cl D X.env) fp) tg gg) ∧ (∀ (s : Shared) (H : Hp) (D : Addr) (cl : List (Str × Addr)) (fp : List Addr), PTs (X.blk s H scope (compEnvC scope cl D X.env) fp) ifs tt) ∧
      (∀ (s : Shared) (H : Hp) (D : Addr) (cl : List (Str × Addr)) (fp : List Addr), PI (X.blk s H scope (compEnvC scope cl D X.env) fp) tg1 iter1 wi1) ∧ (∀ (s : Shared) (H : Hp) (D : Addr) (cl : List (Str × Addr)) (fp : List Addr), PG (X.blk s H scope (compEnvC scope cl D X.env) fp) tg1 gg1) ∧ (∀ (s : Shared) (H : Hp) (D : Addr) (cl : List (Str × Addr)) (fp : List Addr), PTs (X.blk s H scope (compEnvC scope cl D X.env) fp) ifs1 tt1) ∧
      (∀ (s : Shared) (H : Hp) (D : Addr) (cl : List (Str × Addr)) (fp : List Addr), PE (X.blk s H scope (compEnvC scope cl D X.env) fp) ex te) ∧ (∀ v, foldedSetIterable iter X.env v = pure v) ∧ (∀ en v, foldedSetIterable iter1 en v = pure v) ∧ ∀ m σ H Q, tE C K c m (.lc2 x it d x1 own1 it1 d1 own el) σ H Q → tLc2 wi gg tt wi1 gg1 tt1 te ((ownP g own).map (·.2)) own1 σ H Q := by
  obtain ⟨h0, h12, h13⟩ := andB3 (show (decide (j = 0) && decide (j1 = 0) && (chkIt g sc (isTupTg tg) it iter || chk g sc it iter) && blkB g sc scope own && tgtSub x own && chkT g scope x tg && ifsB (chk g (relS scope sc) d) ifs d
      && (chkIt g (relS scope sc) (isTupTg tg1) it1 iter1 || chk g (relS scope sc) it1 iter1) && tgtSub x1 own1 && chkT g scope x1 tg1 && ifsB (chk g (relS scope sc) d1) ifs1 d1 && (own1.all fun i => own.contains i) && chk g (relS scope sc) el ex) = true from h)
  obtain ⟨h0, h10, h11⟩ := andB3 h0
  obtain ⟨h0, h8, h9⟩ := andB3 h0
  obtain ⟨h0, h6, h7⟩ := andB3 h0
  obtain ⟨h0, h4, h5⟩ := andB3 h0
  obtain ⟨h1, h2, h3⟩ := andB3 h0
  refine ⟨of_decide_eq_true h1, of_decide_eq_true h2, ?_⟩
  obtain ⟨bo, eo⟩ := blk_own h4
  obtain ⟨tt, pts, htt⟩ := tests_of hd h7
  obtain ⟨tt1, pts1, htt1⟩ := tests_of hd1 h11
  refine ⟨_, _, _, _, _, _, _, pi_both hit hii true G h3, by rw [G.N, G.sc]; exact bo, fun i hi => (by
          rw [eo]
          have := List.all_eq_true.mp h12 i hi
          simpa using this), fun s H D cl fp => (tgt_all (c := c) (G.blkT s H scope cl D fp) G.K x).1 tg h6, fun s H D cl fp => pts _ (G.blk s H scope cl D fp),
        fun s H D cl fp => pi_both hit1 hii1 false (G.blk s H scope cl D fp) h8, fun s H D cl fp => (tgt_all (c := c) (G.blkT s H scope cl D fp) G.K x1).1 tg1 h10, fun s H D cl fp => pts1 _ (G.blk s H scope cl D fp),
        fun s H D cl fp => hel.pe _ _ ex .s (G.blk s H scope cl D fp) h13 (fun z => nomatch z), fun v => fold_ok h3 X.env v, fun en v => fold_ok h8 en v, fun m σ H Q ⟨B, env, hH, ev, hw⟩ => ?_⟩
  rw [eo]
  have hw : WP ((Py.den C it env).bind Py.itemsS) fun xs => WP (Py.compL (Py.bindT x) (Py.den C d) (fun e acc => (Py.den C it1 e).bind fun t1 => (Py.itemsS t1).bind fun ys =>
      Py.compL (Py.bindT x1) (Py.den C d1) (fun e acc => (Py.den C el e).bind fun v => Py.push v acc) (Py.wipev e own1) ys acc) (Py.wipev env own) xs []) fun acc => Post m K B c H Q (.lst acc) := by
    refine wp_and.mpr ((wp_and.mp hw).mono fun t ht => (wp_and.mp ht).mono fun xs hx => ?_)
    exact Py.wp_shut ((wp_and.mp hx))
  refine ⟨B, env, hH, ev.mono fun i q => by simp [esc, q], hw.mono fun ts ht J H1 y1 k1 wk D hD => ?_⟩
  have hH1 := hH.ext y1 k1
  have nc := hH1.ne hD
  have ev1 := ev.ext y1
  refine comp_it (S := SL K c B D H1) (es := fun j => esc (isW m) (.lc2 x it d x1 own1 it1 d1 own el) j || own.contains j) (wk (fun a => B a ∨ a = D) (ban_new hD) (fun a z => z.elim)) (fun acc H' s => ⟨s.1.kept s.2.1, s.2.1⟩) (fun acc H2 H3 s x k => s.ext nc x k) (fun acc H2 s => (ev1.chg (ban_new hD)).ext s.1 |>.wipe own) h5 htt
    (fun σ2 H3 e1 acc Rn Nx ev2 ho s hr hn => ?_) (fun acc H2 s r => ?_) (acc0 := []) ⟨Ext.new hD, hH1.new hD, [], upd_same, RepL.nil⟩ ht
  · have hw1 : WP ((Py.den C it1 e1).bind Py.itemsS) fun ys => WP (Py.compL (Py.bindT x1) (Py.den C d1) (fun e acc => (Py.den C el e).bind fun v => Py.push v acc) (Py.wipev e1 own1) ys acc) Rn :=
      wp_and.mpr ((wp_and.mp hr).mono fun t ht => (wp_and.mp ht).mono fun xs hx => hx)
    have em : ∀ j, esc (isW m) (.lc2 x it d x1 own1 it1 d1 own el) j = (esc true it j || ((esc false it1 j || esc false el j) && !own.contains j)) := by intro j; cases m <;> rfl
    have noD : ∀ (j : Nat) (t : Tr), e1[j]? = some (some t) → σ2[j]? ≠ some (some (V.ref D)) := fun j t he hs => by
      obtain ⟨v, g1, g2, g3⟩ := ev2.get j t he
      rw [g1] at hs
      cases hs
      by_cases tj : tgtIn x j = true
      · obtain ⟨_, _, vs, hd', _⟩ := s
        exact (g3 (by rw [tj]; simp)).nolst (.inr rfl) hd' nc rfl
      · have tj : tgtIn x j = false := by simpa using tj
        obtain ⟨o1, o2⟩ := ho j tj
        rw [o1] at he
        obtain ⟨w1, w2⟩ := wipev_get env own j t he
        obtain ⟨v', q1, q2, _⟩ := ev1.get j t w1
        rw [g1, wipe_out w2, q1] at o2
        cases o2
        exact q2.noref hD nc rfl
    refine ⟨_, e1, s.here hH1, ev2.mono fun j q => ?_, hw1.mono fun ys hy J1 H4 y4 k4 wk1 => ?_⟩
    · by_cases hoj : own.contains j = true
      · simp only [hoj, Bool.or_true, Bool.true_or]
      · simp only [Bool.not_eq_true] at hoj
        rw [em]
        simp only [q, hoj, Bool.not_false, Bool.and_true, Bool.or_true, Bool.true_or]
    · have s4 := s.ext nc y4 k4
      refine comp_it (Z := fun a => B a ∨ a = D) (S := fun acc H => SL K c B D H1 acc H ∧ Kept (fun a => a = D) c H4 H) (es := fun j => (esc (isW m) (.lc2 x it d x1 own1 it1 d1 own el) j || own.contains j || tgtIn x j) || own1.contains j) (wk1 (fun a => B a ∨ a = D) (fun a b => .inl b) (fun a z => z))
        (fun acc H' s => ⟨s.2.mono (fun a e => .inr e), s.1.2.1⟩) (fun acc H2 H3 s x k => ⟨s.1.ext nc x k, s.2.trans (x.kept k)⟩) (fun acc H2 s => ((ev2.ext y4).keptD (.inr rfl) noD s.2).wipe own1) h9 htt1
        (fun σ3 H5 e2 acc2 Rn2 Nx2 ev3 _ s5 hr5 hn5 => ?_) (fun acc5 H5 s5 r5 => hn acc5 H5 s5.1 r5) (acc0 := acc) ⟨s4, Kept.refl _ c H4⟩ hy
      refine ⟨_, e2, s5.1.here hH1, ev3.mono fun j q => ?_, (wp_and.mp hr5).mono fun t hp v H6 x6 k6 r6 => ?_⟩
      · have q : esc false el j = true := q
        by_cases hoj : own.contains j = true
        · simp only [hoj, Bool.or_true, Bool.true_or]
        · simp only [Bool.not_eq_true] at hoj
          rw [em]
          simp only [q, hoj, Bool.not_false, Bool.and_true, Bool.or_true, Bool.true_or]
      · obtain ⟨hl, hp⟩ := push_wp hp
        have s6 := s5.1.ext nc x6 k6
        obtain ⟨vs, hd', l, s'⟩ := s6.step hD nc (show Rep K H6 _ c t v from r6)
        refine ⟨vs, hd', by rw [← l]; exact hl, hn5 _ _ ⟨s', (s5.2.trans (x6.kept k6)).trans ?_⟩ hp⟩
        exact upd_kept (Z := fun a => a = D) rfl (fun _ z => by rw [hd'] at z; cases z) (by rw [hd']; exact fun z => nomatch z)
  · obtain ⟨x2, k2, vs, hd', l⟩ := s
    refine r (.ref D) H2 (y1.trans x2) k2 (Fresh.res (B := B) hH (Ext.refl c H) hH.cup ?_)
    exact ⟨D, vs, rfl, y1.none k1 hD, hd', l⟩
theorem snd_lc2 {it d it1 d1 el : Py.E} (x x1 : Py.Tgt) (own own1 : List Nat) (hit : SN C P w K mg base g lv c it) (hii : SndI C P w K mg base g lv c it) (hd : SN C P w K mg base g lv c d) (hit1 : SN C P w K mg base g lv c it1) (hii1 : SndI C P w K mg base g lv c it1) (hd1 : SN C P w K mg base g lv c d1) (hel : SN C P w K mg base g lv c el) :
    SndE C P w K mg base g lv c (.lc2 x it d x1 own1 it1 d1 own el) := by
  refine snd_val (fun X sc e m G h hm => ?_) (fun X sc e h whole => ?_) (fun _ _ => rfl)
  · have h' := h
    unfold chk at h'
    split at h'
    · obtain ⟨e, e', wi, wi1, gg, gg1, tt, tt1, te, p1, p2, p3, p4, p5, p6, p7, p8, p9, p10, p11, p12⟩ := lc2_parts hit hii hd hit1 hii1 hd1 hel G h
      subst e
      subst e'
      exact PE.imp (pe_lc2 G.calm G.nd' p1 p2 p3 p4 p5 p6 p7 p8 p9 p10 p11) (p12 m)
    · cases h'
  · unfold chk at h
    split at h
    · rfl
    · cases h
end
end Snd

set_option Elab.async false
set_option linter.all false
set_option maxRecDepth 100000
set_option maxHeartbeats 2000000
namespace Snd
open PySem PySem.Spec L2
open PyProof.Rows hiding St
section
variable {C : Py.Cx} {P : Program} {w : World} {K : PySem.W.Frag} {mg : Str → Option Value} {base : Heap} {g : Gx} {lv : Nat} {c : Addr}
def SD (K : PySem.W.Frag) (c : Addr) (B : Bn) (D : Addr) (H1 : Hp) (acc : List (Tr × Tr)) (H : Hp) : Prop :=
  Ext c H1 H ∧ CupOk H c ∧ ∃ (ks : List Key) (vs : List V), H D = some (.dK (ks.zip vs)) ∧ ks.length = vs.length ∧ acc.map (·.1) = ks.map kT ∧ RepV K H (fun a => B a ∨ a = D) c acc vs
theorem SD.ext {B : Bn} {D : Addr} {H1 H H' : Hp} {acc : List (Tr × Tr)} (nc : D ≠ c) (s : SD K c B D H1 acc H) (x : Ext c H H') (k : CupOk H' c) : SD K c B D H1 acc H' := by
  obtain ⟨x0, k0, ks, vs, hd, l, e, r⟩ := s
  exact ⟨x0.trans x, k, ks, vs, x D _ hd nc, l, e, r.ext x⟩
theorem SD.here {B : Bn} {D : Addr} {H1 H : Hp} {acc : List (Tr × Tr)} (hH : Here B c H1) (s : SD K c B D H1 acc H) : Here (fun a => B a ∨ a = D) c H := by
  obtain ⟨x, k, ks, vs, hd, l⟩ := s
  refine ⟨k, fun a b => ?_⟩
  rcases b with b | b
  · exact x.dom k a (hH.dom a b)
  · rw [b, hd]; exact fun z => nomatch z
theorem SD.step {B : Bn} {D : Addr} {H1 H : Hp} {acc : List (Tr × Tr)} (hD : H1 D = none) (nc : D ≠ c) (s : SD K c B D H1 acc H) {t : Tr} {v : V} (k : Key) (r : Rep K H (fun a => B a ∨ a = D) c t v) :
    ∃ kvs, H D = some (.dK kvs) ∧ acc.length = kvs.length ∧ SD K c B D H1 (Py.dput acc (kT k) t) (upd H D (.dK (putK kvs k v))) := by
  obtain ⟨x, kc, ks, vs, hd, l, e, rv⟩ := s
  have kp : Kept (fun a => a = D) c H (upd H D (.dK (putK (ks.zip vs) k v))) := upd_kept (Z := fun a => a = D) rfl (fun _ z => by rw [hd] at z; cases z) (by rw [hd]; exact fun z => nomatch z)
  refine ⟨ks.zip vs, hd, by rw [zip_len l, rv.length], fun a o e n => ?_, upd_cup kc nc, ?_⟩
  · rw [upd_ne (fun q => by rw [q, hD] at e; cases e)]; exact x a o e n
  · obtain ⟨ks', vs', a1, a2, a3, a4⟩ := tab_put kT_eq k (r.kept kp fun a z => .inr z) l e (rv.kept kp fun a z => .inr z)
    exact ⟨ks', vs', by rw [upd_same, a1], a2, a3, a4⟩
theorem dc_parts {it d k el : Py.E} {x : Py.Tgt} {own : List Nat} (hit : SN C P w K mg base g lv c it) (hii : SndI C P w K mg base g lv c it) (hd : SN C P w K mg base g lv c d) (hk : SN C P w K mg base g lv c k) (hel : SN C P w K mg base g lv c el) {X : L2.Cx} {sc : Scope} {kx ex tg iter : Expr} {ifs : List Expr} {j : Int} {scope : Scope} {pos : Pos}
    (G : Good P w K mg base g lv X sc) (h : chk g sc (.dc x it d own k el) (.DictComp kx ex [⟨tg, iter, ifs, j⟩] scope pos) = true) : j = 0 ∧
    ∃ (wi : TI) (gg : TG) (tt : TT) (tk te : TE), PI X tg iter wi ∧ BlkOk X.N X.env.scope scope (ownP g own) ∧ (∀ (s : Shared) (H : Hp) (D : Addr) (cl : List (Str × Addr)) (fp : List Addr), PG (X.blk s H scope (compEnvC scope cl D X.env) fp) tg gg) ∧ (∀ (s : Shared) (H : Hp) (D : Addr) (cl : List (Str × Addr)) (fp : List Addr), PTs (X.blk s H scope (compEnvC scope cl D X.env) fp) ifs tt) ∧
      (∀ (s : Shared) (H : Hp) (D : Addr) (cl : List (Str × Addr)) (fp : List Addr), PE (X.blk s H scope (compEnvC scope cl D X.env) fp) kx tk) ∧ (∀ (s : Shared) (H : Hp) (D : Addr) (cl : List (Str × Addr)) (fp : List Addr), PE (X.blk s H scope (compEnvC scope cl D X.env) fp) ex te) ∧ (∀ v, foldedSetIterable iter X.env v = pure v) ∧ ∀ m σ H Q, tE C K c m (.dc x it d own k el) σ H Q → tDc wi gg tt tk te ((ownP g own).map (·.2)) σ H Q := by
  obtain ⟨h0, h7, h8⟩ := andB3 (show (decide (j = 0) && (chkIt g sc (isTupTg tg) it iter || chk g sc it iter) && blkB g sc scope own && tgtSub x own && chkT g scope x tg && ifsB (chk g (relS scope sc) d) ifs d && chk g (relS scope sc) k kx && chk g (relS scope sc) el ex) = true from h)
  obtain ⟨h0, h5, h6⟩ := andB3 h0
  obtain ⟨h0, h3, h4⟩ := andB3 h0
  obtain ⟨h1, h2⟩ := andB h0
  refine ⟨of_decide_eq_true h1, ?_⟩
  obtain ⟨bo, eo⟩ := blk_own h3
  obtain ⟨tt, pts, htt⟩ := tests_of hd h6
  refine ⟨_, _, _, _, _, pi_both hit hii true G h2, by rw [G.N, G.sc]; exact bo, fun s H D cl fp => (tgt_all (c := c) (G.blkT s H scope cl D fp) G.K x).1 tg h5, fun s H D cl fp => pts _ (G.blk s H scope cl D fp), fun s H D cl fp => hk.pe _ _ kx .w (G.blk s H scope cl D fp) h7 okW,
        fun s H D cl fp => hel.pe _ _ ex .s (G.blk s H scope cl D fp) h8 (fun z => nomatch z), fun v => fold_ok h2 X.env v, fun m σ H Q ⟨B, env, hH, ev, hw⟩ => ?_⟩
  rw [eo]
  have hw : WP ((Py.den C it env).bind Py.itemsS) fun xs => WP (Py.compL (Py.bindT x) (Py.den C d) (fun e acc => (Py.den C k e).bind fun kv => (Py.den C el e).bind fun vv => if Py.keyA kv && decide (acc.length < Py.lim) then .ret (Py.dput acc kv vv) else .stuck) (Py.wipev env own) xs []) fun acc => Post m K B c H Q (.dct acc) := by
    refine wp_and.mpr ((wp_and.mp hw).mono fun t ht => (wp_and.mp ht).mono fun xs hx => ?_)
    exact Py.wp_shut ((wp_and.mp hx))
  refine ⟨B, env, hH, ev.mono fun i q => by simp [esc, q], hw.mono fun ts ht J H1 x1 k1 wk D hD => ?_⟩
  have hH1 := hH.ext x1 k1
  have nc := hH1.ne hD
  refine comp_it (S := SD K c B D H1) (es := fun j => esc (isW m) (.dc x it d own k el) j || own.contains j) (wk (fun a => B a ∨ a = D) (ban_new hD) (fun a z => z.elim)) (fun acc H' s => ⟨s.1.kept s.2.1, s.2.1⟩) (fun acc H2 H3 s x k => s.ext nc x k) (fun acc H2 s => ((ev.ext x1).chg (ban_new hD)).ext s.1 |>.wipe own) h4 htt
    (fun σ2 H3 e1 acc Rn Nx ev2 _ s hr hn => ?_) (fun acc H2 s r => ?_) (acc0 := []) ⟨Ext.new hD, hH1.new hD, [], [], upd_same, rfl, rfl, by simp only [RepV]⟩ ht
  · refine subW (s.here hH1) ev2 (wp_and.mp hr) fun kt kv H4 hkt x4 k4 r4 => ?_
    have s4 := s.ext nc x4 k4
    refine ⟨_, e1, s4.here hH1, (ev2.ext x4).mono fun j q => ?_, (wp_and.mp hkt).mono fun t hp v H5 x5 k5 r5 => ?_⟩
    · by_cases ho : own.contains j = true
      · simp only [ho, Bool.or_true, Bool.true_or]
      · have q : esc false el j = true := q
        have e : esc (isW m) (.dc x it d own k el) j = (esc true it j || (esc false el j && !own.contains j)) := by cases m <;> rfl
        rw [e, q]
        simp only [Bool.not_eq_true] at ho
        simp only [ho, Bool.not_false, Bool.and_true, Bool.or_true, Bool.true_or]
    · rcases wp_ite hp with ⟨hc, hp⟩ | ⟨_, hp⟩
      · obtain ⟨ka, hl⟩ := andB hc
        have hl := of_decide_eq_true hl
        obtain ⟨kk, rfl⟩ := kT_of ka
        have ek := weak_kT r4
        subst ek
        obtain ⟨kvs, hd', l, s'⟩ := (s4.ext nc x5 k5).step hD nc kk (show Rep K H5 _ c t v from r5)
        exact ⟨kvs, kk, rfl, hd', by rw [← l, ← lim_line]; exact hl, hn _ _ s' hp⟩
      · exact hp.elim
  · obtain ⟨x2, k2, ks, vs, hd', l, e, rv⟩ := s
    refine r (.ref D) H2 (x1.trans x2) k2 (Fresh.res (B := B) hH (Ext.refl c H) hH.cup ?_)
    exact ⟨D, vs, rfl, x1.none k1 hD, rv, .inl ⟨ks, l, e, hd'⟩⟩
theorem snd_dc {it d k el : Py.E} (x : Py.Tgt) (own : List Nat) (hit : SN C P w K mg base g lv c it) (hii : SndI C P w K mg base g lv c it) (hd : SN C P w K mg base g lv c d) (hk : SN C P w K mg base g lv c k) (hel : SN C P w K mg base g lv c el) : SndE C P w K mg base g lv c (.dc x it d own k el) := by
  refine snd_val (fun X sc e m G h hm => ?_) (fun X sc e h whole => ?_) (fun _ _ => rfl)
  · have h' := h
    unfold chk at h'
    split at h'
    · obtain ⟨e, wi, gg, tt, tk, te, p1, p2, p3, p4, p5, p6, p7, p8⟩ := dc_parts hit hii hd hk hel G h
      subst e
      exact PE.imp (pe_dc G.calm G.nd' p1 p2 p3 p4 p5 p6 p7) (p8 m)
    · cases h'
  · unfold chk at h
    split at h
    · rfl
    · cases h

theorem snd_dcons {k v r : Py.E} (hk : SN C P w K mg base g lv c k) (hv : SN C P w K mg base g lv c v) : SndE C P w K mg base g lv c (.dcons k v r) := by
  refine snd_val (fun X sc e m G h hm => ?_) (fun X sc e h whole => ?_) (fun _ _ => rfl)
  · unfold chk at h
    split at h
    · rename_i kx vx pos
      obtain ⟨h1, h2, h3⟩ := andB3 h
      have er : r = .dnil := by
        cases r <;> first
          | rfl
          | cases h1
      subst er
      refine PE.imp (pe_disp (pps_cons (hk.pe X sc kx .w G h2 okW) (hv.pe X sc vx .s G h3 (fun z => nomatch z)) pps_nil) rfl rfl (by simp) (by show 1 ≤ 15; decide)) fun σ H Q ⟨B, env, hH, ev, hw⟩ p hp => ?_
      have nc := hH.ne hp
      have x0 : Ext c H (upd H p (.dK [])) := Ext.new hp
      have k0 : CupOk (upd H p (.dK [])) c := hH.new hp
      have hH1 : Here (fun a => B a ∨ a = p) c (upd H p (.dK [])) := ⟨k0, fun a b => b.elim (fun q => x0.dom k0 a (hH.dom a q)) fun e => by rw [e, upd_same]; exact fun z => nomatch z⟩
      have ev1 := (ev.chg (B' := fun a => B a ∨ a = p) (ban_new hp)).ext x0
      have hp1 : (upd H p (.dK [])) p = some (.dK []) := upd_same
      generalize hHp : upd H p (.dK []) = H1 at x0 k0 hH1 ev1 hp1
      refine subW hH1 ev1 (wp_and.mp hw) fun tk v1 H2 ht x1 k1 r1 => ?_
      refine ⟨_, env, hH1.ext x1 k1, (ev1.ext x1).mono fun i q => by have q : esc false v i = true := q; simp [esc, q], (wp_and.mp ht).mono fun tv hv' v2 H3 x2 k2 r2 => ?_⟩
      have hv' : WP (if Py.keyA tk && (Py.dget [] tk).isNone && (([] : List (Tr × Tr)).all fun p => Py.keyA p.1) then Py.M.ret (Py.T.dct [(tk, tv)]) else .stuck) (Post m K B c H Q) := hv'
      rcases wp_ite hv' with ⟨hc, hq⟩ | ⟨_, hq⟩
      · obtain ⟨hc, _⟩ := andB hc
        obtain ⟨ka, _⟩ := andB hc
        obtain ⟨kk, rfl⟩ := kT_of ka
        have ek := weak_kT r1
        subst ek
        have hp3 := x2 p _ (x1 p _ hp1 nc) nc
        refine ⟨hp3, [(kk, v2)], rfl, by show 1 ≤ 15; decide, ?_⟩
        have kp : Kept (fun a => a = p) c H3 (upd H3 p (.dK (mergeK [] [(kk, v2)]))) := upd_kept (Z := fun a => a = p) rfl (fun _ z => by rw [hp3] at z; cases z) (by rw [hp3]; exact fun z => nomatch z)
        have r3 : Rep K H3 (fun a => B a ∨ a = p) c tv v2 := r2
        refine (show Post m K B c H Q (.dct [(kT kk, tv)]) from hq) (.ref p) _ (fun a o e n => ?_) (upd_cup k2 nc) (Fresh.res (B := B) hH (Ext.refl c H) hH.cup ?_)
        · rw [upd_ne (fun q => by rw [q, hp] at e; cases e)]
          exact x2 a o (x1 a o (x0 a o e n) n) n
        · exact ⟨p, [v2], rfl, hp, RepV.cons (r3.kept kp fun a z => .inr z) (by simp only [RepV]), .inl ⟨[kk], rfl, rfl, upd_same⟩⟩
      · exact hq.elim
    · cases h
  · unfold chk at h
    split at h
    · rfl
    · cases h
structure All (C : Py.Cx) (P : Program) (w : World) (K : PySem.W.Frag) (mg : Str → Option Value) (base : Heap) (g : Gx) (lv : Nat) (c : Addr) (e : Py.E) : Prop where
  ex : SndE C P w K mg base g lv c e
  it : SndI C P w K mg base g lv c e
  h : ∀ a r, e = .cons a r → SndE C P w K mg base g lv c a
  wa : ∀ (X : L2.Cx) (sc : Scope) (y z : Expr) (r : List Expr) (p : Pos), Good P w K mg base g lv X sc → chk g sc e (.BoolOp .And (y :: z :: r) p) = true → PW X (.BoolOp .And (y :: z :: r) p) (tT C K c e)
  wo : ∀ (X : L2.Cx) (sc : Scope) (y z : Expr) (r : List Expr) (p : Pos), Good P w K mg base g lv X sc → chk g sc e (.BoolOp .Or (y :: z :: r) p) = true → PW X (.BoolOp .Or (y :: z :: r) p) (tT C K c e)
theorem All.val {e : Py.E} (he : SndE C P w K mg base g lv c e) (hi : SndI C P w K mg base g lv c e) (hh : ∀ a r, e ≠ .cons a r) (ha : ∀ sc xs p, chk g sc e (.BoolOp .And xs p) = false) (ho : ∀ sc xs p, chk g sc e (.BoolOp .Or xs p) = false) : All C P w K mg base g lv c e where
  ex := he
  it := hi
  h := fun a r q => absurd q (hh a r)
  wa := fun X sc y z r p G h => by rw [ha] at h; cases h
  wo := fun X sc y z r p G h => by rw [ho] at h; cases h
theorem conB_bool (g : Gx) (sc : Scope) (t : Tr) (o : BoolOp) (xs : List Expr) (p : Pos) : conB g sc t (.BoolOp o xs p) = false := by cases t <;> rfl
theorem snd_all (F : Facts C P w K mg base g lv c) (e : Py.E) : All C P w K mg base g lv c e := by
  induction e with
  | var i => exact .val (snd_var i) (sndI_none fun _ _ _ => rfl) (by intro _ _ z; cases z) (fun _ _ _ => rfl) (fun _ _ _ => rfl)
  | con t => exact .val (snd_con F t) (sndI_none fun _ _ _ => rfl) (by intro _ _ z; cases z) (fun sc xs p => conB_bool g sc t .And xs p) (fun sc xs p => conB_bool g sc t .Or xs p)
  | nil => exact .val snd_nil (sndI_none fun _ _ _ => rfl) (by intro _ _ z; cases z) (fun _ _ _ => rfl) (fun _ _ _ => rfl)
  | cons a r ha hr => exact ⟨snd_cons ha.ex hr.ex, sndI_none fun _ _ _ => rfl, fun a' r' q => (by cases q; exact ha.ex), fun X sc y z r p G h => (by cases h), fun X sc y z r p G h => (by cases h)⟩
  | tup es he => exact .val (snd_tup he.ex) (sndI_none fun _ _ _ => rfl) (by intro _ _ z; cases z) (fun _ _ _ => rfl) (fun _ _ _ => rfl)
  | lst es he => exact .val (snd_lst he.ex) (sndI_none fun _ _ _ => rfl) (by intro _ _ z; cases z) (fun _ _ _ => rfl) (fun _ _ _ => rfl)
  | dnil => exact .val snd_dnil (sndI_none fun _ _ _ => rfl) (by intro _ _ z; cases z) (fun _ _ _ => rfl) (fun _ _ _ => rfl)
  | dcons k v r hk hv _ => exact .val (snd_dcons hk.ex hv.ex) (sndI_none fun _ _ _ => rfl) (by intro _ _ z; cases z) (fun _ _ _ => rfl) (fun _ _ _ => rfl)
  | bin o a b ha hb => exact .val (snd_bin o ha.ex hb.ex) (sndI_none fun _ _ _ => rfl) (by intro _ _ z; cases z) (fun _ _ _ => rfl) (fun _ _ _ => rfl)
  | neg a ha => exact .val (snd_neg ha.ex) (sndI_none fun _ _ _ => rfl) (by intro _ _ z; cases z) (fun _ _ _ => rfl) (fun _ _ _ => rfl)
  | not a ha => exact .val (snd_not ha.ex) (sndI_none fun _ _ _ => rfl) (by intro _ _ z; cases z) (fun _ _ _ => rfl) (fun _ _ _ => rfl)
  | and a b ha hb =>
    obtain ⟨h1, h2⟩ := snd_and ha.ex hb.ex hb.wa
    exact ⟨h1, sndI_none fun _ _ _ => rfl, (by intro _ _ z; cases z), h2, fun X sc y z r p G h => (by cases h)⟩
  | or a b ha hb =>
    obtain ⟨h1, h2⟩ := snd_or ha.ex hb.ex hb.wo
    exact ⟨h1, sndI_none fun _ _ _ => rfl, (by intro _ _ z; cases z), fun X sc y z r p G h => (by cases h), h2⟩
  | cmp o a b ha hb => exact .val (snd_cmp o ha.ex hb.ex) (sndI_none fun _ _ _ => rfl) (by intro _ _ z; cases z) (fun _ _ _ => rfl) (fun _ _ _ => rfl)
  | chain o p a b d ha hb hd => exact .val (snd_chain o p ha.ex hb.ex hd.ex) (sndI_none fun _ _ _ => rfl) (by intro _ _ z; cases z) (fun _ _ _ => rfl) (fun _ _ _ => rfl)
  | ite d a b hd ha hb => exact .val (snd_ite hd.ex ha.ex hb.ex) (sndI_none fun _ _ _ => rfl) (by intro _ _ z; cases z) (fun _ _ _ => rfl) (fun _ _ _ => rfl)
  | call f es he => exact .val (snd_call F f he.ex) (sndI_none fun _ _ _ => rfl) (by intro _ _ z; cases z) (fun _ _ _ => rfl) (fun _ _ _ => rfl)
  | roll a n ha hn => exact .val (snd_roll F ha.ex hn.ex) (sndI_none fun _ _ _ => rfl) (by intro _ _ z; cases z) (fun _ _ _ => rfl) (fun _ _ _ => rfl)
  | bi b es he => exact .val (snd_bi F b he.ex he.h) (sndI_none fun _ _ _ => rfl) (by intro _ _ z; cases z) (fun _ _ _ => rfl) (fun _ _ _ => rfl)
  | get1 d k hd hk => exact .val (snd_get1 hd.ex hk.ex) (sndI_none fun _ _ _ => rfl) (by intro _ _ z; cases z) (fun _ _ _ => rfl) (fun _ _ _ => rfl)
  | get2 d k x hd hk hx => exact .val (snd_get2 hd.ex hk.ex hx.ex) (sndI_none fun _ _ _ => rfl) (by intro _ _ z; cases z) (fun _ _ _ => rfl) (fun _ _ _ => rfl)
  | index a x ha hx => exact .val (snd_index ha.ex hx.ex) (sndI_none fun _ _ _ => rfl) (by intro _ _ z; cases z) (fun _ _ _ => rfl) (fun _ _ _ => rfl)
  | count a x ha hx => exact .val (snd_count ha.ex hx.ex) (sndI_none fun _ _ _ => rfl) (by intro _ _ z; cases z) (fun _ _ _ => rfl) (fun _ _ _ => rfl)
  | rngs t a ha => exact .val (snd_rngs F t ha.it) (sndI_none fun _ _ _ => rfl) (by intro _ _ z; cases z) (fun _ _ _ => rfl) (fun _ _ _ => rfl)
  | rng1 a ha => exact .val (snd_none (fun _ _ => rfl) (fun _ _ => rfl)) (sndI_rng1 F ha.ex) (by intro _ _ z; cases z) (fun _ _ _ => rfl) (fun _ _ _ => rfl)
  | rng2 a b ha hb => exact .val (snd_none (fun _ _ => rfl) (fun _ _ => rfl)) (sndI_rng2 F ha.ex hb.ex) (by intro _ _ z; cases z) (fun _ _ _ => rfl) (fun _ _ _ => rfl)
  | rng3 a b d _ _ _ => exact .val (snd_none (fun _ _ => rfl) (fun _ _ => rfl)) (sndI_none fun _ _ _ => rfl) (by intro _ _ z; cases z) (fun _ _ _ => rfl) (fun _ _ _ => rfl)
  | zip2 a b ha hb => exact .val (snd_none (fun _ _ => rfl) (fun _ _ => rfl)) (sndI_zip F ha.ex hb.ex) (by intro _ _ z; cases z) (fun _ _ _ => rfl) (fun _ _ _ => rfl)
  | enum a ha => exact .val (snd_none (fun _ _ => rfl) (fun _ _ => rfl)) (sndI_enum F ha.ex) (by intro _ _ z; cases z) (fun _ _ _ => rfl) (fun _ _ _ => rfl)
  | idx a i ha hi => exact .val (snd_idx ha.ex hi.ex) (sndI_none fun _ _ _ => rfl) (by intro _ _ z; cases z) (fun _ _ _ => rfl) (fun _ _ _ => rfl)
  | slc a lo hi ha hl hh => exact .val (snd_slc ha.ex hl.ex hh.ex) (sndI_none fun _ _ _ => rfl) (by intro _ _ z; cases z) (fun _ _ _ => rfl) (fun _ _ _ => rfl)
  | rev a ha => exact .val (snd_rev ha.ex) (sndI_none fun _ _ _ => rfl) (by intro _ _ z; cases z) (fun _ _ _ => rfl) (fun _ _ _ => rfl)
  | sset a ha => exact .val (snd_sset F ha.ex) (sndI_none fun _ _ _ => rfl) (by intro _ _ z; cases z) (fun _ _ _ => rfl) (fun _ _ _ => rfl)
  | slen a ha => exact .val (snd_slen F ha.ex) (sndI_none fun _ _ _ => rfl) (by intro _ _ z; cases z) (fun _ _ _ => rfl) (fun _ _ _ => rfl)
  | rngd a b ha hb => exact .val (snd_rngd F ha.ex hb.ex) (sndI_none fun _ _ _ => rfl) (by intro _ _ z; cases z) (fun _ _ _ => rfl) (fun _ _ _ => rfl)
  | lc x it d own el hit hd hel => exact .val (snd_lc x own hit.ex hit.it hd.ex hel.ex) (sndI_none fun _ _ _ => rfl) (by intro _ _ z; cases z) (fun _ _ _ => rfl) (fun _ _ _ => rfl)
  | lc2 x it d x1 own1 it1 d1 own el hit hd hit1 hd1 hel => exact .val (snd_lc2 x x1 own own1 hit.ex hit.it hd.ex hit1.ex hit1.it hd1.ex hel.ex) (sndI_none fun _ _ _ => rfl) (by intro _ _ z; cases z) (fun _ _ _ => rfl) (fun _ _ _ => rfl)
  | dc x it d own k v hit hd hk hv => exact .val (snd_dc x own hit.ex hit.it hd.ex hk.ex hv.ex) (sndI_none fun _ _ _ => rfl) (by intro _ _ z; cases z) (fun _ _ _ => rfl) (fun _ _ _ => rfl)
  | never => exact .val (snd_none (fun _ _ => rfl) (fun _ _ => rfl)) (sndI_none fun _ _ _ => rfl) (by intro _ _ z; cases z) (fun _ _ _ => rfl) (fun _ _ _ => rfl)
end
end Snd

set_option Elab.async false
set_option linter.all false
set_option maxRecDepth 100000
set_option maxHeartbeats 2000000
namespace Snd
open PySem PySem.Spec L2
open PyProof.Rows hiding St

def isMut : Tr → Bool
  | .lst _ => true
  | .dct _ => true
  | _ => false
inductive OR where
  | bad
  | dead
  | ok (o : List Nat)
  deriving DecidableEq
def dropE (w : Bool) (o : List Nat) (e : Py.E) : List Nat := o.filter fun i => !esc w e i
def less (o : List Nat) (p : Nat → Bool) : List Nat := o.filter fun i => !p i
def OR.meet : OR → OR → OR
  | .bad, _ => .bad
  | _, .bad => .bad
  | .dead, r => r
  | r, .dead => r
  | .ok a, .ok b => .ok (a.filter fun i => b.contains i)
def OR.bindO (r : OR) (f : List Nat → OR) : OR := match r with
  | .bad => .bad
  | .dead => .dead
  | .ok o => f o
def need (o : List Nat) (i : Nat) : OR := if o.contains i then .ok o else .bad
/-- what a loop keeps -/
def loopO (f : List Nat → OR) : Nat → List Nat → OR
  | 0, _ => .bad
  | n + 1, o => match f o with
    | .bad => .bad
    | .dead => .ok o
    | .ok o' => if o.all fun i => o'.contains i then .ok o else loopO f n (o.filter fun i => o'.contains i)
def slot2 (fr : Bool) (i : Nat) (o : List Nat) : List Nat := if fr then i :: less o (· == i) else less o (· == i)
def parO : List Nat → Py.E → List Nat → OR
  | [], .nil, o => .ok o
  | i :: is, .cons a r, o => parO is r (slot2 (fresh a) i o)
  | _, _, _ => .bad
/-- the owning slots behind a statement (bk: those that a break must leave) -/
def outS : Py.S → List Nat → List Nat → OR
  | .skip, _, o => .ok o
  | .seq a b, bk, o => (outS a bk o).bindO fun o => outS b bk o
  | .asg i e, _, o => .ok (slot2 (fresh e) i (dropE false o e))
  | .asgT x e, _, o => .ok (less (dropE false o e) (tgtIn x))
  | .par xs es, _, o => parO xs es (dropE false o es)
  | .seti i _ e, _, o => need (dropE false o e) i
  | .aug _ _, _, o => .ok o
  | .ext i e, _, o => need (dropE true o e) i
  | .augi i _ _, _, o => need o i
  | .app i e, _, o => need (dropE false o e) i
  | .upd i e, _, o => need (dropE true o e) i
  | .popT x i, _, o => (need o i).bindO fun o => if tgtIn x i then .bad else .ok (less o (tgtIn x))
  | .appPop j i _, _, o => if i == j then .bad else (need o i).bindO fun o => need o j
  | .expr _, _, o => .ok o
  | .ite _ a b, bk, o => (outS a bk o).meet (outS b bk o)
  | .whl _ b, _, o => loopO (fun o => outS b o o) 8 o
  | .for_ x it b, _, o => loopO (fun o => outS b o (less o (tgtIn x))) 8 (dropE false o it)
  | .ret _, _, _ => .dead
  | .retN, _, _ => .dead
  | .brk, bk, o => if bk.all fun i => o.contains i then .dead else .bad
  | .raise _, _, _ => .dead
  | .never, _, _ => .dead
/-- the objects that the slots own -/
def Own (o : List Nat) (σ : L2.St) (env : Py.Env) : Bn := fun a => ∃ (i : Nat) (t : Tr), o.contains i = true ∧ env[i]? = some (some t) ∧ isMut t = true ∧ σ[i]? = some (some (.ref a))
def Ban (A : Bn) (o : List Nat) (σ : L2.St) (env : Py.Env) : Bn := fun a => A a ∨ Own o σ env a
/-- where a def stands: it began at H0, A is banned from without -/
structure SI (K : PySem.W.Frag) (c : Addr) (A : Bn) (H0 : Hp) (o : List Nat) (σ : L2.St) (H : Hp) (env : Py.Env) : Prop where
  cup : CupOk H c
  ext : Ext c H0 H
  ev : Ev K c (fun i => !o.contains i) (Ban A o σ env) σ H env
  new : ∀ a, Own o σ env a → H0 a = none
  inj : ∀ (i j : Nat) (t u : Tr) (a : Addr), o.contains i = true → o.contains j = true → env[i]? = some (some t) → env[j]? = some (some u) → isMut t = true → isMut u = true → σ[i]? = some (some (.ref a)) → σ[j]? = some (some (.ref a)) → i = j
  nofz : ∀ a, Own o σ env a → ∀ ob u, H a ≠ some (.frz ob u)
section
variable {K : PySem.W.Frag} {c : Addr} {A : Bn} {H0 H H' : Hp} {o o' : List Nat} {σ : L2.St} {env : Py.Env}
theorem Own.mono (m : ∀ i, o'.contains i = true → o.contains i = true) {a : Addr} (h : Own o' σ env a) : Own o σ env a := by
  obtain ⟨i, t, h1, h2, h3, h4⟩ := h
  exact ⟨i, t, m i h1, h2, h3, h4⟩
/-- a tree that is no list and no dict, or whose top is not banned -/
theorem RepW.strong {B B' : Bn} {t : Tr} {v : V} (r : RepW K H B c t v) (m : ∀ a, B' a → B a) (h : isMut t = true → ∀ a, v = .ref a → ¬ B' a) : Rep K H B' c t v := by
  cases t with
  | lst xs =>
    obtain ⟨a, vs, e, n, s, l⟩ := wLst r
    simp only [Rep]
    exact ⟨a, vs, e, n, h rfl a e, s, l.mono m⟩
  | dct kvs =>
    obtain ⟨a, vs, e, n, l, s⟩ := r
    simp only [Rep]
    exact ⟨a, vs, e, n, h rfl a e, l.mono m, s⟩
  | _ => exact Rep.mono m r
theorem SI.weak (hA : Here A c H0) (S : SI K c A H0 o σ H env) (m : ∀ i, o'.contains i = true → o.contains i = true) : SI K c A H0 o' σ H env := by
  have mB : ∀ a, Ban A o' σ env a → Ban A o σ env a := fun a h => h.elim .inl fun q => .inr (q.mono m)
  refine ⟨S.cup, S.ext, ⟨fun i t e => ?_, S.ev.len⟩, fun a h => S.new a (h.mono m), fun i j t u a h1 h2 => S.inj i j t u a (m i h1) (m j h2), fun a h => S.nofz a (h.mono m)⟩
  obtain ⟨v, h1, h2, h3⟩ := S.ev.get i t e
  refine ⟨v, h1, h2.mono mB, fun hn => ?_⟩
  have hn : o'.contains i = false := by simpa using hn
  by_cases ho : o.contains i = true
  · refine h2.strong mB fun ht a ev hb => ?_
    subst ev
    have own : Own o σ env a := ⟨i, t, ho, e, ht, h1⟩
    rcases hb with hb | ⟨j, u, j1, j2, j3, j4⟩
    · exact hA.dom a hb (S.new a own)
    · have := S.inj i j t u a ho (m j j1) e j2 ht j3 h1 j4
      subst this
      rw [hn] at j1; cases j1
  · exact (h3 (by simpa using ho)).mono mB
theorem SI.there (S : SI K c A H0 o σ H env) {a : Addr} (h : Own o σ env a) : H a ≠ none ∧ a ≠ c := by
  obtain ⟨i, t, h1, h2, h3, h4⟩ := h
  obtain ⟨v, g1, g2, _⟩ := S.ev.get i t h2
  rw [h4] at g1
  cases g1
  cases t with
  | lst xs => obtain ⟨b, vs, e, n, s, l⟩ := wLst g2; cases e; exact ⟨(by rw [s]; exact fun z => nomatch z), n⟩
  | dct kvs =>
    obtain ⟨b, vs, e, n, l, s⟩ := g2
    cases e
    refine ⟨?_, n⟩
    rcases s with ⟨ks, _, _, q | ⟨_, ob, q⟩⟩ | ⟨ks, _, _, q | ⟨_, ob, q⟩⟩ <;> rw [q] <;> exact fun z => nomatch z
  | _ => cases h3
theorem SI.here (hA : Here A c H0) (S : SI K c A H0 o σ H env) : Here (Ban A o σ env) c H := ⟨S.cup, fun a b => b.elim (fun q => S.ext.dom S.cup a (hA.dom a q)) fun q => (S.there q).1⟩
theorem SI.move (S : SI K c A H0 o σ H env) (x : Ext c H H') (k : CupOk H' c) : SI K c A H0 o σ H' env := by
  refine ⟨k, S.ext.trans x, S.ev.ext x, S.new, S.inj, fun a h ob u e => ?_⟩
  obtain ⟨h1, h2⟩ := S.there h
  cases q : H a with
  | none => exact h1 q
  | some w =>
    rw [x a w q h2] at e
    cases e
    exact S.nofz a h ob u q
theorem dropE_out {w : Bool} {e : Py.E} : ∀ i, (dropE w o e).contains i = true → o.contains i = true := by
  intro i h
  simp only [dropE, List.contains_iff_mem, List.mem_filter] at h ⊢
  exact h.1
theorem dropE_esc {w : Bool} {e : Py.E} {i : Nat} (h : esc w e i = true) : (dropE w o e).contains i = false := by
  rw [Bool.eq_false_iff]
  intro q
  simp only [dropE, List.contains_iff_mem, List.mem_filter, h] at q
  exact absurd q.2 (by simp)
theorem less_out {p : Nat → Bool} : ∀ i, (less o p).contains i = true → o.contains i = true ∧ p i = false := by
  intro i h
  simp only [less, List.contains_iff_mem, List.mem_filter, Bool.not_eq_true'] at h ⊢
  exact h
/-- the slots' names for e's evaluation -/
theorem SI.esc {e : Py.E} {w : Bool} (S : SI K c A H0 (dropE w o e) σ H env) : Ev K c (Snd.esc w e) (Ban A (dropE w o e) σ env) σ H env := S.ev.mono fun i h => by
  rw [dropE_esc h]; rfl
theorem own_set {i : Nat} {t : Tr} {v : V} (hn : o.contains i = false) {a : Addr} (h : Own o (σ.set i (some v)) (Py.setv env i t) a) : Own o σ env a := by
  obtain ⟨j, u, h1, h2, h3, h4⟩ := h
  have ne : j ≠ i := fun e => by rw [e, hn] at h1; cases h1
  rw [setv_get, if_neg (fun q => ne q.1)] at h2
  rw [List.getElem?_set_ne ne.symm] at h4
  exact ⟨j, u, h1, h2, h3, h4⟩
/-- the slot i takes a strong value -/
theorem SI.setS (S : SI K c A H0 o σ H env) {i : Nat} {t : Tr} {v : V} (hn : o.contains i = false) (r : Rep K H (Ban A o σ env) c t v) : SI K c A H0 o (σ.set i (some v)) H (Py.setv env i t) := by
  have mB : ∀ a, Ban A o (σ.set i (some v)) (Py.setv env i t) a → Ban A o σ env a := fun a h => h.elim .inl fun q => .inr (own_set hn q)
  have ev := S.ev.set i r
  refine ⟨S.cup, S.ext, ⟨fun j u e => ?_, ev.len⟩, fun a h => S.new a (own_set hn h), fun j k u w a h1 h2 h3 h4 h5 h6 h7 h8 => ?_, fun a h => S.nofz a (own_set hn h)⟩
  · obtain ⟨x, g1, g2, g3⟩ := ev.get j u e
    exact ⟨x, g1, g2.mono mB, fun q => (g3 (by simp only [q, Bool.true_or])).mono mB⟩
  · have ne : ∀ {j : Nat}, o.contains j = true → j ≠ i := fun h e => by rw [e, hn] at h; cases h
    rw [setv_get, if_neg (fun q => ne h1 q.1)] at h3
    rw [setv_get, if_neg (fun q => ne h2 q.1)] at h4
    rw [List.getElem?_set_ne (ne h1).symm] at h7
    rw [List.getElem?_set_ne (ne h2).symm] at h8
    exact S.inj j k u w a h1 h2 h3 h4 h5 h6 h7 h8
end
end Snd

set_option Elab.async false
set_option linter.all false
set_option maxRecDepth 100000
set_option maxHeartbeats 2000000
namespace Snd
open PySem PySem.Spec L2
open PyProof.Rows hiding St
section
variable {K : PySem.W.Frag} {c : Addr} {A : Bn} {H0 H H' : Hp} {o o' : List Nat} {σ : L2.St} {env : Py.Env}
theorem SI.setF (hA : Here A c H0) (S : SI K c A H0 o σ H env) (x : Ext c H H') (k : CupOk H' c) {i : Nat} {t : Tr} {v : V} (hn : o.contains i = false) (r : Fresh K H H' (Ban A o σ env) c t v) : SI K c A H0 (i :: o) (σ.set i (some v)) H' (Py.setv env i t) := by
  have hH := S.here hA
  by_cases ht : isMut t = true
  · -- a new list or dict
    obtain ⟨a, rfl, na, nf, rw0⟩ : ∃ a, v = .ref a ∧ H a = none ∧ (∀ ob u, H' a ≠ some (.frz ob u)) ∧ RepW K H' (fun b => Ban A o σ env b ∨ b = a) c t v := by
      cases t with
      | lst xs =>
        obtain ⟨a, vs, e, n, s, l⟩ := r
        exact ⟨a, e, n, fun ob u q => (by rw [s] at q; cases q), a, vs, e, hH.ne n, s, l⟩
      | dct kvs =>
        obtain ⟨a, vs, e, n, l, s⟩ := r
        refine ⟨a, e, n, fun ob u q => ?_, a, vs, e, hH.ne n, l, ?_⟩
        · rcases s with ⟨_, _, _, s⟩ | ⟨_, _, _, s⟩ <;> rw [s] at q <;> cases q
        · rcases s with ⟨ks, l1, l2, s⟩ | ⟨ks, l1, l2, s⟩
          · exact .inl ⟨ks, l1, l2, .inl s⟩
          · exact .inr ⟨ks, l1, l2, .inl s⟩
      | _ => cases ht
    have na0 : H0 a = none := S.ext.none S.cup na
    -- who owns what now
    have own' : ∀ b, Own (i :: o) (σ.set i (some (.ref a))) (Py.setv env i t) b → Own o σ env b ∨ b = a := by
      rintro b ⟨j, u, h1, h2, h3, h4⟩
      by_cases e : j = i
      · subst e
        by_cases hl : j < σ.length
        · rw [List.getElem?_set_self hl] at h4
          cases h4; exact .inr rfl
        · rw [List.getElem?_eq_none (by rw [List.length_set]; omega)] at h4; cases h4
      · rw [setv_get, if_neg (fun q => e q.1)] at h2
        rw [List.getElem?_set_ne (Ne.symm e)] at h4
        refine .inl ⟨j, u, ?_, h2, h3, h4⟩
        simpa [List.contains_cons, e] using h1
    have mB : ∀ b, Ban A (i :: o) (σ.set i (some (.ref a))) (Py.setv env i t) b → Ban A o σ env b ∨ b = a := fun b h => h.elim (fun q => .inl (.inl q)) fun q => (own' b q).elim (fun z => .inl (.inr z)) .inr
    have mN : ∀ b, Ban A (i :: o) (σ.set i (some (.ref a))) (Py.setv env i t) b → Ban A o σ env b ∨ H b = none := fun b h => (mB b h).elim .inl fun e => .inr (by rw [e]; exact na)
    refine ⟨k, S.ext.trans x, ⟨fun j u e => ?_, by rw [setv_length, List.length_set]; exact S.ev.len⟩, fun b h => ?_, fun j l u w b h1 h2 h3 h4 h5 h6 h7 h8 => ?_, fun b h ob u e => ?_⟩
    · rw [setv_get] at e
      by_cases q : j = i ∧ i < env.length
      · rw [if_pos q] at e
        cases e
        obtain ⟨rfl, ql⟩ := q
        exact ⟨_, by rw [List.getElem?_set_self (by rw [← S.ev.len]; exact ql)], rw0.mono mB, fun q => (by simp at q)⟩
      · rw [if_neg q] at e
        obtain ⟨v', h1, h2, h3⟩ := S.ev.get j u e
        have ne : i ≠ j := fun z => q ⟨z.symm, by
          subst z
          have := (List.getElem?_eq_some_iff.mp h1).1
          rw [S.ev.len]; exact this⟩
        refine ⟨v', by rw [List.getElem?_set_ne ne]; exact h1, (h2.chg mN).ext x, fun z => ((h3 ?_).chg mN).ext x⟩
        simp [Ne.symm ne] at z ⊢
        exact z
    · exact (own' b h).elim (S.new b) fun e => by rw [e]; exact na0
    · -- no two slots own one thing
      have sl : ∀ {j : Nat} {u : Tr} {b : Addr}, (i :: o).contains j = true → (Py.setv env i t)[j]? = some (some u) → (σ.set i (some (.ref a)))[j]? = some (some (.ref b)) → (j = i ∧ b = a) ∨ (j ≠ i ∧ o.contains j = true ∧ env[j]? = some (some u) ∧ σ[j]? = some (some (.ref b))) := by
        intro j u b h1 h2 h4
        by_cases e : j = i
        · subst e
          by_cases hl : j < σ.length
          · rw [List.getElem?_set_self hl] at h4
            cases h4; exact .inl ⟨rfl, rfl⟩
          · rw [List.getElem?_eq_none (by rw [List.length_set]; omega)] at h4; cases h4
        · rw [setv_get, if_neg (fun q => e q.1)] at h2
          rw [List.getElem?_set_ne (Ne.symm e)] at h4
          exact .inr ⟨e, by simpa [List.contains_cons, e] using h1, h2, h4⟩
      have old : ∀ {j : Nat} {u : Tr}, o.contains j = true → env[j]? = some (some u) → isMut u = true → σ[j]? = some (some (.ref a)) → False := fun h1 h2 h3 h4 => (S.there ⟨_, _, h1, h2, h3, h4⟩).1 na
      rcases sl h1 h3 h7 with ⟨e1, e2⟩ | ⟨n1, a1, a2, a3⟩ <;> rcases sl h2 h4 h8 with ⟨f1, f2⟩ | ⟨m1, b1, b2, b3⟩
      · rw [e1, f1]
      · rw [e2] at b3; exact (old b1 b2 h6 b3).elim
      · rw [f2] at a3; exact (old a1 a2 h5 a3).elim
      · exact S.inj j l u w b a1 b1 a2 b2 h5 h6 a3 b3
    · rcases own' b h with q | q
      · exact (S.move x k).nofz b q ob u e
      · rw [q] at e; exact nf ob u e
  · -- no list, no dict: as any strong value
    have r' : Rep K H' (Ban A o σ env) c t v := r.rep hH
    have S1 := (S.move x k).setS hn r'
    have oe : ∀ b, Own (i :: o) (σ.set i (some v)) (Py.setv env i t) b → Own o (σ.set i (some v)) (Py.setv env i t) b := by
      rintro b ⟨j, u, h1, h2, h3, h4⟩
      refine ⟨j, u, ?_, h2, h3, h4⟩
      by_cases e : j = i
      · subst e
        rw [setv_get] at h2
        by_cases q : j = j ∧ j < env.length
        · rw [if_pos q] at h2; cases h2; exact absurd h3 ht
        · rw [if_neg q] at h2
          have := (List.getElem?_eq_some_iff.mp h2).1
          exact absurd ⟨rfl, this⟩ q
      · simpa [List.contains_cons, e] using h1
    have mB : ∀ b, Ban A (i :: o) (σ.set i (some v)) (Py.setv env i t) b → Ban A o (σ.set i (some v)) (Py.setv env i t) b := fun b h => h.elim .inl fun q => .inr (oe b q)
    refine ⟨S1.cup, S1.ext, ⟨fun j u e => ?_, S1.ev.len⟩, fun b h => S1.new b (oe b h), fun j l u w b h1 h2 h3 h4 h5 h6 h7 h8 => ?_, fun b h => S1.nofz b (oe b h)⟩
    · obtain ⟨v', h1, h2, h3⟩ := S1.ev.get j u e
      refine ⟨v', h1, h2.mono mB, fun z => (h3 ?_).mono mB⟩
      simp [List.contains_cons] at z ⊢
      exact z.2
    · have up : ∀ {j : Nat} {u : Tr}, (i :: o).contains j = true → (Py.setv env i t)[j]? = some (some u) → isMut u = true → o.contains j = true := by
        intro j u g1 g2 g3
        by_cases e : j = i
        · subst e
          rw [setv_get] at g2
          by_cases q : j = j ∧ j < env.length
          · rw [if_pos q] at g2; cases g2; exact absurd g3 ht
          · rw [if_neg q] at g2
            have := (List.getElem?_eq_some_iff.mp g2).1
            exact absurd ⟨rfl, this⟩ q
        · simpa [List.contains_cons, e] using g1
      exact S1.inj j l u w b (up h1 h3 h5) (up h2 h4 h6) h3 h4 h5 h6 h7 h8
/-- the slot takes what e gave -/
theorem SI.slot {m : Md} {fr : Bool} (hA : Here A c H0) (S : SI K c A H0 o σ H env) (hm : m = if fr then Md.f else Md.s) (x : Ext c H H') (k : CupOk H' c) (i : Nat) {t : Tr} {v : V} (r : Res m K H H' (Ban A o σ env) c t v) : SI K c A H0 (slot2 fr i o) (σ.set i (some v)) H' (Py.setv env i t) := by
  have S1 : SI K c A H0 (less o (· == i)) σ H env := S.weak hA fun j h => (less_out j h).1
  have hn : (less o (· == i)).contains i = false := by
    rw [Bool.eq_false_iff]
    intro h
    have := (less_out i h).2
    simp at this
  have mB : ∀ a, Ban A (less o (· == i)) σ env a → Ban A o σ env a := fun a h => h.elim .inl fun q => .inr (q.mono fun j h => (less_out j h).1)
  subst hm
  cases fr with
  | true =>
    refine S1.setF hA x k hn ?_
    have r : Fresh K H H' (Ban A o σ env) c t v := r
    cases t with
    | lst xs =>
      obtain ⟨a, vs, e, n, s, l⟩ := r
      exact ⟨a, vs, e, n, s, l.mono fun b h => h.elim (fun q => .inl (mB b q)) .inr⟩
    | dct kvs =>
      obtain ⟨a, vs, e, n, l, s⟩ := r
      exact ⟨a, vs, e, n, l.mono fun b h => h.elim (fun q => .inl (mB b q)) .inr, s⟩
    | _ => exact Rep.mono mB r
  | false => exact (S1.move x k).setS hn ((show Rep K H' (Ban A o σ env) c t v from r).mono mB)
end
end Snd

set_option Elab.async false
set_option linter.all false
set_option maxRecDepth 100000
set_option maxHeartbeats 2000000
namespace Snd
open PySem PySem.Spec L2
open PyProof.Rows hiding St

theorem ps_setDc {X : L2.Cx} {i : Nat} {y : Str} {py : Pos} {kx vx tg iter : Expr} {ifs : List Expr} {scope : Scope} {own : List (Str × Nat)} {pos spos : Pos} {wi : TI} {g : TG} {tt : TT} {tk tv : TE} (hc : X.calm = true) (hN : X.N.Nodup) (hy : X.N[i]? = some y) (hyl : X.env.scope.names.lookup y = some .local)
    (hsw : swapsWith (.DictComp kx vx [⟨tg, iter, ifs, 0⟩] scope pos) (some (.Name y py)) spos.line X.env = pure true) (hi : PI X tg iter wi) (ok : BlkOk X.N X.env.scope scope own)
    (hg : ∀ (s : Shared) (H : Hp) (C : Addr) (cl : List (Str × Addr)) (fp : List Addr), PG (X.blk s H scope (compEnvC scope cl C X.env) fp) tg g) (ht : ∀ (s : Shared) (H : Hp) (C : Addr) (cl : List (Str × Addr)) (fp : List Addr), PTs (X.blk s H scope (compEnvC scope cl C X.env) fp) ifs tt)
    (hk : ∀ (s : Shared) (H : Hp) (C : Addr) (cl : List (Str × Addr)) (fp : List Addr), PE (X.blk s H scope (compEnvC scope cl C X.env) fp) kx tk)
    (he : ∀ (s : Shared) (H : Hp) (C : Addr) (cl : List (Str × Addr)) (fp : List Addr), PE (X.blk s H scope (compEnvC scope cl C X.env) fp) vx tv) (hs : ∀ x, foldedSetIterable iter X.env x = pure x) :
    PS X (.Assign [.Name y py] (.DictComp kx vx [⟨tg, iter, ifs, 0⟩] scope pos) spos) (tAsg (tDc wi g tt tk tv (own.map (·.2))) (gName i)) := by
  refine ⟨fun pins s σ H D I h => ?_⟩
  rw [exec_Assign_Name_used _ _ _ _ hsw]
  refine wpAny_bind (wpAny_standAt (wpAny_bind ?_))
  show wpAny _ X.A (do let _ ← comprehension (.DictComp kx vx [⟨tg, iter, ifs, 0⟩] scope pos) scope X.env (firstIterPos [⟨tg, iter, ifs, 0⟩] pos) newDict false (eval iter X.env) (some (assign (.Name y py) X.env))) _ _ s
  have h : tDc wi g tt tk tv (own.map (·.2)) σ H (fun x H1 => gName i x σ H1 D.nx) := h
  refine wpAny_bind (thn (dc_core (Qf := fun _ s' => SP X pins D .next s') hc hN I hi ok hg ht hk he hs h fun L C s' m H' I' q hn f => ?_) fun _ s' hq => wpAny_pure (wpAny_pure hq))
  show wpAny _ _ (assign (.Name y py) X.env (.ref L)) _ _ _
  refine wpAny_assign_Name (store_ok2 (v := V.ref L) I' hN hy (.inl hyl) rfl (fun s2 I2 ⟨a, sb, ha⟩ => ?_) (.inr hyl))
  obtain ⟨f0, f1, f2, f3, f4, f5⟩ := f
  have haC : C ≠ a := by
    rcases ha with z | z
    · rw [z]; exact f1
    · exact fun e => f4 y a z e.symm
  refine ⟨m, hn.sameBut sb haC, fun h3 sb3 => ?_⟩
  exact ⟨_, H', I2.turned (t' := s2.toks) (fun b o hb e => (sb3.2 b hb).trans e) f0 f1 f3 f4 f5, q⟩
/-- whether a comprehension's value is stored ahead of its frame's end -/
def swapB (sc : Scope) (y : Str) (py : Pos) : Expr → Bool
  | .ListComp _ _ scope pos => decide (sc.names.lookup y = some .local) && (py.line == pos.line) && !(scope.names.any fun (n, k) => n == y && (k == .local || k == .cell))
  | .DictComp _ _ _ scope pos => decide (sc.names.lookup y = some .local) && (py.line == pos.line) && !(scope.names.any fun (n, k) => n == y && (k == .local || k == .cell))
  | .SetComp _ _ _ _ => true
  | _ => false
theorem swap_false {sc : Scope} {y : Str} {py : Pos} {x : Expr} {l : Nat} {env : Env} (hs : env.scope = sc) (h : swapB sc y py x = false) : swapsWith x (some (.Name y py)) l env = pure false := by
  have key : ∀ (scope : Scope) (pos : Pos), (decide (sc.names.lookup y = some .local) && (py.line == pos.line) && !(scope.names.any fun (n, k) => n == y && (k == .local || k == .cell))) = false →
      (env.blockKind == .function && env.kindOf y == some .local && py.line == pos.line && !(scope.names.any fun (n, k) => n == y && (k == .local || k == .cell))) = false := by
    intro scope pos hh
    have e : (env.kindOf y == some .local) = decide (sc.names.lookup y = some .local) := by
      show (env.scope.names.lookup y == some .local) = _
      rw [hs]
      cases sc.names.lookup y with
      | none => rfl
      | some k => cases k <;> rfl
    rw [e]
    rw [Bool.and_assoc, Bool.and_assoc]
    rw [Bool.and_assoc] at hh
    rw [hh, Bool.and_false]
  cases x with
  | ListComp a b scope pos =>
    unfold swapsWith
    exact congrArg (pure : Bool → Sem Bool) (key scope pos h)
  | DictComp a b d scope pos =>
    unfold swapsWith
    exact congrArg (pure : Bool → Sem Bool) (key scope pos h)
  | SetComp a b scope pos => cases h
  | _ => rfl
theorem swap_true {sc : Scope} {y : Str} {py : Pos} {scope : Scope} {pos : Pos} {l : Nat} {env : Env} (hs : env.scope = sc) (hk : sc.kind = .function) (h : (decide (sc.names.lookup y = some .local) && (py.line == pos.line) && !(scope.names.any fun (n, k) => n == y && (k == .local || k == .cell))) = true) :
    sc.names.lookup y = some .local ∧ (∀ a b, swapsWith (.ListComp a b scope pos) (some (.Name y py)) l env = pure true) ∧ ∀ a b d, swapsWith (.DictComp a b d scope pos) (some (.Name y py)) l env = pure true := by
  obtain ⟨h0, h3⟩ := andB h
  obtain ⟨h1, h2⟩ := andB h0
  have h1 := of_decide_eq_true h1
  have h3 := notB h3
  subst hs
  have ky : env.kindOf y = some .local := h1
  have hb : env.blockKind = .function := by unfold Env.blockKind; rw [hk]; rfl
  refine ⟨h1, fun a b => ?_, fun a b d => ?_⟩
  · unfold swapsWith
    simp only [hb, ky, h3, Expr.pos, h2]
    rfl
  · unfold swapsWith
    simp only [hb, ky, h3, Expr.pos, h2]
    rfl
section
variable {C : Py.Cx} {P : Program} {w : World} {K : PySem.W.Frag} {mg : Str → Option Value} {base : Heap} {g : Gx} {lv : Nat} {c : Addr}
variable (P w K mg base g lv) in
structure GoodS (X : L2.Cx) (sc : Scope) : Prop where
  g : Good P w K mg base g lv X sc
  fn : ∀ x, X.fn x = true
  kind : sc.kind = .function
  pass : PassesOwn (model X.prog X.w) X.A X.env X.xe
theorem GoodS.tgt {X : L2.Cx} {sc : Scope} (G : GoodS P w K mg base g lv X sc) : GoodT g sc X where
  N := G.g.N
  nd := G.g.nd'
  calm := G.g.calm
  loc := fun x h => by
    refine ⟨?_, .inl (G.fn x)⟩
    unfold locB at h
    unfold L2.Loc
    rw [G.g.sc]
    cases q : sc.names.lookup x with
    | none => rw [q] at h; cases h
    | some k => cases k <;> rw [q] at h <;> simp at h ⊢
theorem PS.imp {X : L2.Cx} {st : Stmt} {t t' : TS} (h : PS X st t) (i : ∀ D σ H, t' D σ H → t D σ H) : PS X st t' := ⟨fun pins s σ H D I hw => h.run pins s σ H D I (i D σ H hw)⟩
theorem PSs.imp {X : L2.Cx} {st : List Stmt} {t t' : TS} (h : PSs X st t) (i : ∀ D σ H, t' D σ H → t D σ H) : PSs X st t' := ⟨fun pins s σ H D I hw => h.run pins s σ H D I (i D σ H hw)⟩
theorem ps_name (F : Facts C P w K mg base g lv c) {X : L2.Cx} {sc : Scope} (G : GoodS P w K mg base g lv X sc) {e : Py.E} {i : Nat} {y : Str} {py : Pos} {x : Expr} {spos : Pos} {m : Md} (hi : g.N[i]? = some y) (hl : locB sc y = true) (h : chk g sc e x = true) (hm : okM m e) :
    PS X (.Assign [.Name y py] x spos) (tAsg (tE C K c m e) (gName i)) := by
  have hN : X.N[i]? = some y := by rw [G.g.N]; exact hi
  obtain ⟨l1, l2⟩ := G.tgt.loc y hl
  cases hs : swapB sc y py x with
  | false => exact ps_set G.g.nd' hN l1 ((snd_all F e).ex.pe X sc x m G.g h hm) (swap_false G.g.sc hs) l2
  | true =>
    cases x with
    | ListComp a b scope pos =>
      obtain ⟨s1, s2, _⟩ := swap_true (l := spos.line) G.g.sc G.kind hs
      have s1 : X.env.scope.names.lookup y = some .local := by rw [G.g.sc]; exact s1
      cases e with
      | lc t it d own el =>
        have h' := h
        unfold chk at h'
        split at h'
        · rename_i heq
          cases heq
          obtain ⟨e, wi, gg, tt, te, p1, p2, p3, p4, p5, p6, p7⟩ := lc_parts (snd_all F it).ex (snd_all F it).it (snd_all F d).ex (snd_all F el).ex G.g h
          subst e
          exact PS.imp (ps_setLc G.g.calm G.g.nd' hN s1 (s2 _ _) p1 p2 p3 p4 p5 p6) fun D σ H q => p7 m _ _ _ q
        · cases h'
      | lc2 t it d t1 own1 it1 d1 own el =>
        have h' := h
        unfold chk at h'
        split at h'
        · rename_i heq
          cases heq
          obtain ⟨e, e', wi, wi1, gg, gg1, tt, tt1, te, p1, p2, p3, p4, p5, p6, p7, p8, p9, p10, p11, p12⟩ := lc2_parts (snd_all F it).ex (snd_all F it).it (snd_all F d).ex (snd_all F it1).ex (snd_all F it1).it (snd_all F d1).ex (snd_all F el).ex G.g h
          subst e
          subst e'
          exact PS.imp (ps_setLc2 G.g.calm G.g.nd' hN s1 (s2 _ _) p1 p2 p3 p4 p5 p6 p7 p8 p9 p10 p11) fun D σ H q => p12 m _ _ _ q
        · cases h'
      | con t => cases t <;> cases h
      | _ => cases h
    | DictComp a b d' scope pos =>
      obtain ⟨s1, _, s2⟩ := swap_true (l := spos.line) G.g.sc G.kind hs
      have s1 : X.env.scope.names.lookup y = some .local := by rw [G.g.sc]; exact s1
      cases e with
      | dc t it d own k el =>
        have h' := h
        unfold chk at h'
        split at h'
        · rename_i heq
          cases heq
          obtain ⟨e, wi, gg, tt, tk, te, p1, p2, p3, p4, p5, p6, p7, p8⟩ := dc_parts (snd_all F it).ex (snd_all F it).it (snd_all F d).ex (snd_all F k).ex (snd_all F el).ex G.g h
          subst e
          exact PS.imp (ps_setDc G.g.calm G.g.nd' hN s1 (s2 _ _ _) p1 p2 p3 p4 p5 p6 p7) fun D σ H q => p8 m _ _ _ q
        · cases h'
      | con t => cases t <;> cases h
      | _ => cases h
    | SetComp a b scope pos =>
      exfalso
      cases e with
      | con t => cases t <;> cases h
      | _ => cases h
    | _ => cases hs
end
end Snd

set_option Elab.async false
set_option linter.all false
set_option maxRecDepth 100000
set_option maxHeartbeats 2000000
namespace Snd
open PySem PySem.Spec L2
open PyProof.Rows hiding St

section
variable {K : PySem.W.Frag} {c : Addr} {A : Bn} {H0 H H' : Hp} {o o' : List Nat} {σ : L2.St} {env : Py.Env}
theorem app_get {α : Type} {xs : List α} {x : α} {i : Nat} {z : α} (h : (xs ++ [x])[i]? = some z) (ne : x ≠ z) : xs[i]? = some z := by
  rcases Nat.lt_or_ge i xs.length with q | q
  · rw [List.getElem?_append_left q] at h; exact h
  · rw [List.getElem?_append_right q] at h
    cases hk : i - xs.length with
    | zero => rw [hk] at h; simp at h; exact absurd h ne
    | succ k => rw [hk] at h; simp at h
theorem SI.grow (S : SI K c A H0 o σ H env) : SI K c A H0 o (σ ++ [none]) H (env ++ [none]) := by
  have e1 : ∀ {i : Nat} {t : Tr}, (env ++ [none])[i]? = some (some t) → env[i]? = some (some t) := fun h => app_get h (fun z => nomatch z)
  have e2 : ∀ {i : Nat} {v : V}, (σ ++ [none])[i]? = some (some v) → σ[i]? = some (some v) := fun h => app_get h (fun z => nomatch z)
  have e3 : ∀ {i : Nat} {v : V}, σ[i]? = some (some v) → (σ ++ [none])[i]? = some (some v) := fun {i v} h => by
    rw [List.getElem?_append_left (List.getElem?_eq_some_iff.mp h).1]; exact h
  have ow : ∀ a, Own o (σ ++ [none]) (env ++ [none]) a → Own o σ env a := fun a ⟨i, t, h1, h2, h3, h4⟩ => ⟨i, t, h1, e1 h2, h3, e2 h4⟩
  refine ⟨S.cup, S.ext, ⟨fun i t e => ?_, by simp [S.ev.len]⟩, fun a h => S.new a (ow a h), fun i j t u a h1 h2 h3 h4 h5 h6 h7 h8 => S.inj i j t u a h1 h2 (e1 h3) (e1 h4) h5 h6 (e2 h7) (e2 h8), fun a h => S.nofz a (ow a h)⟩
  obtain ⟨v, g1, g2, g3⟩ := S.ev.get i t (e1 e)
  have mB : ∀ a, Ban A o (σ ++ [none]) (env ++ [none]) a → Ban A o σ env a := fun a h => h.elim .inl fun q => .inr (ow a q)
  exact ⟨v, e3 g1, g2.mono mB, fun q => (g3 q).mono mB⟩
theorem SI.shrink {ps : L2.St} {qs : Py.Env} (hl : env.length = σ.length) (S : SI K c A H0 o (σ ++ ps) H (env ++ qs)) : SI K c A H0 o σ H env := by
  have e1 : ∀ {i : Nat} {t : Tr}, env[i]? = some (some t) → (env ++ qs)[i]? = some (some t) ∧ i < env.length := fun {i t} h => by
    have := (List.getElem?_eq_some_iff.mp h).1
    exact ⟨by rw [List.getElem?_append_left this]; exact h, this⟩
  have e2 : ∀ {i : Nat} {v : V}, σ[i]? = some (some v) → (σ ++ ps)[i]? = some (some v) := fun {i v} h => by
    rw [List.getElem?_append_left (List.getElem?_eq_some_iff.mp h).1]; exact h
  have ow : ∀ a, Own o σ env a → Own o (σ ++ ps) (env ++ qs) a := fun a ⟨i, t, h1, h2, h3, h4⟩ => ⟨i, t, h1, (e1 h2).1, h3, e2 h4⟩
  refine ⟨S.cup, S.ext, ⟨fun i t e => ?_, hl⟩, fun a h => S.new a (ow a h), fun i j t u a h1 h2 h3 h4 h5 h6 h7 h8 => S.inj i j t u a h1 h2 (e1 h3).1 (e1 h4).1 h5 h6 (e2 h7) (e2 h8), fun a h => S.nofz a (ow a h)⟩
  obtain ⟨e, hi⟩ := e1 e
  obtain ⟨v, g1, g2, g3⟩ := S.ev.get i t e
  rw [List.getElem?_append_left (by rw [← hl]; exact hi)] at g1
  have mB : ∀ a, Ban A o σ env a → Ban A o (σ ++ ps) (env ++ qs) a := fun a h => h.elim .inl fun q => .inr (ow a q)
  exact ⟨v, g1, g2.mono mB, fun q => (g3 q).mono mB⟩
/-- the slot i takes over what waits in the slot p -/
theorem SI.take (hA : Here A c H0) (S : SI K c A H0 o σ H env) {p i : Nat} {t : Tr} {v : V} (ne : p ≠ i) (hl : i < σ.length) (et : env[p]? = some (some t)) (ev : σ[p]? = some (some v)) :
    SI K c A H0 (if o.contains p then i :: less o (fun j => j == p || j == i) else less o (· == i)) (σ.set i (some v)) H (Py.setv (Py.wipe1 env p) i t) := by
  have hlp : p < env.length := (List.getElem?_eq_some_iff.mp et).1
  have hle : i < env.length := by rw [S.ev.len]; exact hl
  -- what the new slots hold
  have gE : ∀ {j : Nat} {u : Tr}, (Py.setv (Py.wipe1 env p) i t)[j]? = some (some u) → (j = i ∧ u = t) ∨ (j ≠ i ∧ j ≠ p ∧ env[j]? = some (some u)) := by
    intro j u h
    rw [setv_get, wipe1_length] at h
    by_cases q : j = i
    · rw [if_pos ⟨q, hle⟩] at h; cases h; exact .inl ⟨q, rfl⟩
    · rw [if_neg (fun z => q z.1), wipe1_get] at h
      by_cases q2 : j = p ∧ p < env.length
      · rw [if_pos q2] at h; cases h
      · rw [if_neg q2] at h; exact .inr ⟨q, fun z => q2 ⟨z, hlp⟩, h⟩
  have gS : ∀ {j : Nat}, j ≠ i → (σ.set i (some v))[j]? = σ[j]? := fun h => List.getElem?_set_ne (Ne.symm h)
  have gI : (σ.set i (some v))[i]? = some (some v) := List.getElem?_set_self hl
  obtain ⟨v', g1, g2, g3⟩ := S.ev.get p t et
  rw [ev] at g1
  cases g1
  by_cases hp : o.contains p = true
  · rw [if_pos hp]
    -- the slot of o that a slot of the new list stands for
    have back : ∀ {j : Nat} {u : Tr}, (i :: less o (fun j => j == p || j == i)).contains j = true → (Py.setv (Py.wipe1 env p) i t)[j]? = some (some u) → ∃ k, o.contains k = true ∧ env[k]? = some (some u) ∧ (σ.set i (some v))[j]? = σ[k]? ∧ ((j = i ∧ k = p) ∨ (j ≠ i ∧ k = j ∧ j ≠ p)) := by
      intro j u h1 h2
      rcases gE h2 with ⟨rfl, rfl⟩ | ⟨n1, n2, h⟩
      · exact ⟨p, hp, et, by rw [gI, ev], .inl ⟨rfl, rfl⟩⟩
      · refine ⟨j, ?_, h, gS n1, .inr ⟨n1, rfl, n2⟩⟩
        have : (less o (fun j => j == p || j == i)).contains j = true := by simpa [List.contains_cons, n1] using h1
        exact (less_out j this).1
    have ow : ∀ a, Own (i :: less o (fun j => j == p || j == i)) (σ.set i (some v)) (Py.setv (Py.wipe1 env p) i t) a → Own o σ env a := fun a ⟨j, u, h1, h2, h3, h4⟩ => by
      obtain ⟨k, k1, k2, k3, _⟩ := back h1 h2
      exact ⟨k, u, k1, k2, h3, by rw [← k3]; exact h4⟩
    have mB : ∀ a, Ban A (i :: less o (fun j => j == p || j == i)) (σ.set i (some v)) (Py.setv (Py.wipe1 env p) i t) a → Ban A o σ env a := fun a h => h.elim .inl fun q => .inr (ow a q)
    refine ⟨S.cup, S.ext, ⟨fun j u e => ?_, by rw [setv_length, wipe1_length, List.length_set]; exact S.ev.len⟩, fun a h => S.new a (ow a h), fun j l u w a h1 h2 h3 h4 h5 h6 h7 h8 => ?_, fun a h => S.nofz a (ow a h)⟩
    · rcases gE e with ⟨rfl, rfl⟩ | ⟨n1, n2, h⟩
      · exact ⟨v, gI, g2.mono mB, fun q => (by simp at q)⟩
      · obtain ⟨x, x1, x2, x3⟩ := S.ev.get j u h
        refine ⟨x, by rw [gS n1]; exact x1, x2.mono mB, fun q => (x3 ?_).mono mB⟩
        have q' : (i :: less o (fun j => j == p || j == i)).contains j = false := by simpa using q
        rw [Bool.not_eq_true']
        rw [Bool.eq_false_iff] at q' ⊢
        intro z
        apply q'
        simp only [List.contains_iff_mem] at z ⊢
        refine List.mem_cons_of_mem _ (List.mem_filter.mpr ⟨z, ?_⟩)
        simp [n1, n2]
    · obtain ⟨k, k1, k2, k3, k4⟩ := back h1 h3
      obtain ⟨m, m1, m2, m3, m4⟩ := back h2 h4
      rw [k3] at h7
      rw [m3] at h8
      have e := S.inj k m u w a k1 m1 k2 m2 h5 h6 h7 h8
      rcases k4 with ⟨e1, e2⟩ | ⟨e1, e2, e3⟩ <;> rcases m4 with ⟨f1, f2⟩ | ⟨f1, f2, f3⟩
      · rw [e1, f1]
      · exact absurd (by rw [← f2, ← e, e2]) f3
      · exact absurd (by rw [← e2, e, f2]) e3
      · rw [← e2, ← f2, e]
  · rw [if_neg hp]
    have hp : o.contains p = false := by simpa using hp
    have rv : Rep K H (Ban A o σ env) c t v := g3 (by rw [hp]; rfl)
    have ow : ∀ a, Own (less o (· == i)) (σ.set i (some v)) (Py.setv (Py.wipe1 env p) i t) a → Own o σ env a := fun a ⟨j, u, h1, h2, h3, h4⟩ => by
      obtain ⟨l1, l2⟩ := less_out j h1
      have n1 : j ≠ i := by simpa using l2
      rcases gE h2 with ⟨q, _⟩ | ⟨_, n2, h⟩
      · exact absurd q n1
      · rw [gS n1] at h4
        exact ⟨j, u, l1, h, h3, h4⟩
    have mB : ∀ a, Ban A (less o (· == i)) (σ.set i (some v)) (Py.setv (Py.wipe1 env p) i t) a → Ban A o σ env a := fun a h => h.elim .inl fun q => .inr (ow a q)
    refine ⟨S.cup, S.ext, ⟨fun j u e => ?_, by rw [setv_length, wipe1_length, List.length_set]; exact S.ev.len⟩, fun a h => S.new a (ow a h), fun j l u w a h1 h2 h3 h4 h5 h6 h7 h8 => ?_, fun a h => S.nofz a (ow a h)⟩
    · rcases gE e with ⟨rfl, rfl⟩ | ⟨n1, n2, h⟩
      · exact ⟨v, gI, g2.mono mB, fun q => rv.mono mB⟩
      · obtain ⟨x, x1, x2, x3⟩ := S.ev.get j u h
        refine ⟨x, by rw [gS n1]; exact x1, x2.mono mB, fun q => (x3 ?_).mono mB⟩
        have q' : (less o (· == i)).contains j = false := by simpa using q
        rw [Bool.not_eq_true']
        rw [Bool.eq_false_iff] at q' ⊢
        intro z
        apply q'
        simp only [List.contains_iff_mem] at z ⊢
        refine List.mem_filter.mpr ⟨z, ?_⟩
        simp [n1]
    · obtain ⟨a1, a2⟩ := less_out j h1
      obtain ⟨b1, b2⟩ := less_out l h2
      have n1 : j ≠ i := by simpa using a2
      have n2 : l ≠ i := by simpa using b2
      rw [gS n1] at h7
      rw [gS n2] at h8
      rcases gE h3 with ⟨q, _⟩ | ⟨_, _, h3⟩
      · exact absurd q n1
      rcases gE h4 with ⟨q, _⟩ | ⟨_, _, h4⟩
      · exact absurd q n2
      exact S.inj j l u w a a1 b1 h3 h4 h5 h6 h7 h8
end
end Snd

set_option Elab.async false
set_option linter.all false
set_option maxRecDepth 100000
set_option maxHeartbeats 2000000
namespace Snd
open PySem PySem.Spec L2
open PyProof.Rows hiding St
section
variable {K : PySem.W.Frag} {c : Addr} {A : Bn} {H0 H H' : Hp} {o o' : List Nat} {σ : L2.St} {env : Py.Env}
theorem SI.weakL (hA : Here A c H0) (S : SI K c A H0 o σ H env) (m : ∀ i, i < env.length → o'.contains i = true → o.contains i = true) : SI K c A H0 o' σ H env := by
  have S1 : SI K c A H0 (o'.filter fun i => decide (i < env.length)) σ H env := S.weak hA fun i h => by
    simp only [List.contains_iff_mem, List.mem_filter, decide_eq_true_eq] at h
    exact m i h.2 (by simpa using h.1)
  have up : ∀ {i : Nat} {t : Tr}, o'.contains i = true → env[i]? = some (some t) → (o'.filter fun i => decide (i < env.length)).contains i = true := fun {i t} h e => by
    have := (List.getElem?_eq_some_iff.mp e).1
    simp only [List.contains_iff_mem, List.mem_filter, decide_eq_true_eq] at h ⊢
    exact ⟨h, this⟩
  have ow : ∀ a, Own o' σ env a → Own (o'.filter fun i => decide (i < env.length)) σ env a := fun a ⟨i, t, h1, h2, h3, h4⟩ => ⟨i, t, up h1 h2, h2, h3, h4⟩
  have mB : ∀ a, Ban A o' σ env a → Ban A (o'.filter fun i => decide (i < env.length)) σ env a := fun a h => h.elim .inl fun q => .inr (ow a q)
  refine ⟨S.cup, S.ext, ⟨fun i t e => ?_, S.ev.len⟩, fun a h => S1.new a (ow a h), fun i j t u a h1 h2 h3 h4 => S1.inj i j t u a (up h1 h3) (up h2 h4) h3 h4, fun a h => S1.nofz a (ow a h)⟩
  obtain ⟨v, g1, g2, g3⟩ := S1.ev.get i t e
  refine ⟨v, g1, g2.mono mB, fun q => (g3 ?_).mono mB⟩
  rw [Bool.not_eq_true'] at q ⊢
  rw [Bool.eq_false_iff] at q ⊢
  intro z
  apply q
  simp only [List.contains_iff_mem, List.mem_filter] at z ⊢
  exact z.1
theorem less_has {p : Nat → Bool} {x : Nat} : (less o p).contains x = (o.contains x && !p x) := by
  rw [Bool.eq_iff_iff]
  simp [less, List.mem_filter]
theorem slot2_has {f : Bool} {i x : Nat} : (slot2 f i o).contains x = ((f && x == i) || (o.contains x && !(x == i))) := by
  unfold slot2
  cases f with
  | true =>
    rw [if_pos rfl, List.contains_cons, less_has]
    simp
  | false =>
    rw [if_neg Bool.false_ne_true, less_has]
    simp
theorem SI.take2 (hA : Here A c H0) (S : SI K c A H0 o σ H env) {p i : Nat} {t : Tr} {v : V} {f : Bool} (hf : f = true → o.contains p = true) (ne : p ≠ i) (hl : i < σ.length) (et : env[p]? = some (some t)) (ev : σ[p]? = some (some v)) :
    SI K c A H0 (slot2 f i (less o (· == p))) (σ.set i (some v)) H (Py.setv (Py.wipe1 env p) i t) := by
  refine (S.take hA ne hl et ev).weak hA fun x hx => ?_
  rw [slot2_has, less_has] at hx
  by_cases hp : o.contains p = true
  · rw [if_pos hp, List.contains_cons, less_has]
    cases f <;> simp at hx ⊢
    · exact .inr ⟨hx.1.1, hx.1.2, hx.2⟩
    · rcases hx with hx | hx
      · exact .inl hx
      · exact .inr ⟨hx.1.1, hx.1.2, hx.2⟩
  · rw [if_neg hp, less_has]
    cases f with
    | true => exact absurd (hf rfl) hp
    | false =>
      simp at hx ⊢
      exact ⟨hx.1.1, hx.2⟩
theorem setv_app1 : ∀ (l : Py.Env) (r : Py.Env) (t : Tr), Py.setv (l ++ none :: r) l.length t = l ++ some t :: r
  | [], r, t => rfl
  | x :: l, r, t => by
    show x :: Py.setv (l ++ none :: r) l.length t = _
    rw [setv_app1 l r t]; rfl
theorem setv_app : ∀ (l r : Py.Env) (i : Nat) (t : Tr), i < l.length → Py.setv (l ++ r) i t = Py.setv l i t ++ r
  | [], r, i, t, h => absurd h (Nat.not_lt_zero i)
  | x :: l, r, 0, t, _ => rfl
  | x :: l, r, i + 1, t, h => by
    show x :: Py.setv (l ++ r) i t = _
    rw [setv_app l r i t (by simpa using h)]; rfl
theorem wipe1_app : ∀ (l : Py.Env) (x : Option Tr) (r : Py.Env), Py.wipe1 (l ++ x :: r) l.length = l ++ none :: r
  | [], x, r => rfl
  | y :: l, x, r => by
    show y :: Py.wipe1 (l ++ x :: r) l.length = _
    rw [wipe1_app l x r]; rfl
/-- the k-th of them is new -/
def freshAt : Py.E → Nat → Bool
  | .cons a _, 0 => fresh a
  | .cons _ r, k + 1 => freshAt r k
  | _, _ => false
def setAll : List Nat → List V → L2.St → L2.St
  | i :: is, v :: vs, σ => setAll is vs (σ.set i (some v))
  | _, _, σ => σ
/-- the values that wait are stored -/
theorem par_takes (hA : Here A c H0) : ∀ (is : List Nat) (es : Py.E) (ts : List Tr) (vs : List V) (σ : L2.St) (env : Py.Env) (pad : L2.St) (padE : Py.Env) (O o o' : List Nat) (R : Py.Env → Prop), pad.length = padE.length → env.length = σ.length → vs.length = ts.length →
    SI K c A H0 O (σ ++ (pad ++ vs.map some)) H (env ++ (padE ++ ts.map some)) → (∀ x, x < env.length → o.contains x = true → O.contains x = true) → (∀ k, freshAt es k = true → O.contains (env.length + pad.length + k) = true) →
    parO is es o = .ok o' → WP (Py.putAll is ts env) R → ∃ env', R env' ∧ SI K c A H0 o' (setAll is vs σ) H env'
  | [], es, ts, vs, σ, env, pad, padE, O, o, o', R, l1, l2, l3, S, hO, hF, hp, hw => by
    cases es with
    | nil =>
      cases hp
      cases ts with
      | nil => exact ⟨env, hw, (S.shrink l2).weakL hA hO⟩
      | cons _ _ => exact False.elim hw
    | _ => cases hp
  | i :: is, es, ts, vs, σ, env, pad, padE, O, o, o', R, l1, l2, l3, S, hO, hF, hp, hw => by
    cases es with
    | cons a r =>
      cases ts with
      | nil => exact False.elim hw
      | cons t ts =>
        cases vs with
        | nil => cases l3
        | cons v vs =>
          obtain ⟨hi, hw⟩ := wp_ifs hw
          have hls : i < σ.length := by rw [← l2]; exact hi
          have np : env.length + pad.length ≠ i := by omega
          have et : (env ++ (padE ++ (t :: ts).map some))[env.length + pad.length]? = some (some t) := by
            rw [List.getElem?_append_right (by omega), List.getElem?_append_right (by omega)]
            rw [show env.length + pad.length - env.length - padE.length = 0 by omega]; rfl
          have ev : (σ ++ (pad ++ (v :: vs).map some))[env.length + pad.length]? = some (some v) := by
            rw [List.getElem?_append_right (by omega), List.getElem?_append_right (by omega)]
            rw [show env.length + pad.length - σ.length - pad.length = 0 by omega]; rfl
          have S1 := S.take2 hA (f := fresh a) (p := env.length + pad.length) (i := i) (fun h => by have := hF 0 (show fresh a = true from h); simpa using this) np (by rw [List.length_append]; omega) et ev
          have e1 : (σ ++ (pad ++ (v :: vs).map some)).set i (some v) = σ.set i (some v) ++ ((pad ++ [some v]) ++ vs.map some) := by
            rw [List.set_append_left _ _ hls]; simp
          have e2 : Py.setv (Py.wipe1 (env ++ (padE ++ (t :: ts).map some)) (env.length + pad.length)) i t = Py.setv env i t ++ ((padE ++ [none]) ++ ts.map some) := by
            have : env ++ (padE ++ (t :: ts).map some) = (env ++ padE) ++ some t :: ts.map some := by simp
            rw [this]
            have : env.length + pad.length = (env ++ padE).length := by rw [List.length_append, l1]
            rw [this, wipe1_app, List.append_assoc, setv_app _ _ _ _ hi]
            simp
          rw [e1, e2] at S1
          refine par_takes hA is r ts vs (σ.set i (some v)) (Py.setv env i t) (pad ++ [some v]) (padE ++ [none]) _ (slot2 (fresh a) i o) o' R (by simp [l1]) (by rw [setv_length, List.length_set]; exact l2) (by simpa using l3) S1 (fun x hx ho => ?_) (fun k hk => ?_) hp hw
          · rw [setv_length] at hx
            rw [slot2_has] at ho
            rw [slot2_has, less_has]
            simp only [Bool.or_eq_true, Bool.and_eq_true, Bool.not_eq_true', beq_eq_false_iff_ne, beq_iff_eq] at ho ⊢
            rcases ho with ho | ho
            · exact .inl ho
            · exact .inr ⟨⟨hO x hx ho.1, by omega⟩, ho.2⟩
          · have q := hF (k + 1) hk
            rw [slot2_has, less_has]
            rw [setv_length, List.length_append]
            simp only [Bool.or_eq_true, Bool.and_eq_true, Bool.not_eq_true', beq_eq_false_iff_ne, beq_iff_eq, List.length_singleton]
            rw [show env.length + (pad.length + 1) + k = env.length + pad.length + (k + 1) by omega]
            exact .inr ⟨⟨q, by omega⟩, by omega⟩
    | _ => cases hp
/-- what waits, by its slots -/
def pendO : Py.E → Nat → List Nat → List Nat
  | .cons a r, k, o => pendO r (k + 1) (if fresh a then k :: o else o)
  | _, _, o => o
theorem pendO_old : ∀ (es : Py.E) (k : Nat) (o : List Nat) (x : Nat), o.contains x = true → (pendO es k o).contains x = true
  | .cons a r, k, o, x, h => by
    refine pendO_old r (k + 1) _ x ?_
    by_cases q : fresh a = true
    · rw [if_pos q, List.contains_cons, h, Bool.or_true]
    · rw [if_neg q]; exact h
  | .var _, _, _, _, h => h
  | .con _, _, _, _, h => h
  | .nil, _, _, _, h => h
  | .tup _, _, _, _, h => h
  | .lst _, _, _, _, h => h
  | .dnil, _, _, _, h => h
  | .dcons _ _ _, _, _, _, h => h
  | .bin _ _ _, _, _, _, h => h
  | .neg _, _, _, _, h => h
  | .not _, _, _, _, h => h
  | .and _ _, _, _, _, h => h
  | .or _ _, _, _, _, h => h
  | .cmp _ _ _, _, _, _, h => h
  | .chain _ _ _ _ _, _, _, _, h => h
  | .ite _ _ _, _, _, _, h => h
  | .call _ _, _, _, _, h => h
  | .roll _ _, _, _, _, h => h
  | .bi _ _, _, _, _, h => h
  | .get1 _ _, _, _, _, h => h
  | .get2 _ _ _, _, _, _, h => h
  | .index _ _, _, _, _, h => h
  | .count _ _, _, _, _, h => h
  | .rngs _ _, _, _, _, h => h
  | .rng1 _, _, _, _, h => h
  | .rng2 _ _, _, _, _, h => h
  | .rng3 _ _ _, _, _, _, h => h
  | .zip2 _ _, _, _, _, h => h
  | .enum _, _, _, _, h => h
  | .idx _ _, _, _, _, h => h
  | .slc _ _ _, _, _, _, h => h
  | .rev _, _, _, _, h => h
  | .sset _, _, _, _, h => h
  | .slen _, _, _, _, h => h
  | .rngd _ _, _, _, _, h => h
  | .lc _ _ _ _ _, _, _, _, h => h
  | .lc2 _ _ _ _ _ _ _ _ _, _, _, _, h => h
  | .dc _ _ _ _ _ _, _, _, _, h => h
  | .never, _, _, _, h => h
theorem pendO_new (es : Py.E) : ∀ (k : Nat) (o : List Nat) (j : Nat), freshAt es j = true → (pendO es k o).contains (k + j) = true := by
  induction es with
  | cons a r _ ih =>
    intro k o j h
    cases j with
    | zero =>
      have h : fresh a = true := h
      show (pendO r (k + 1) (if fresh a = true then k :: o else o)).contains k = true
      rw [if_pos h]
      exact pendO_old r (k + 1) _ k (by simp)
    | succ j =>
      have := ih (k + 1) (if fresh a then k :: o else o) j h
      rw [show k + (j + 1) = k + 1 + j by omega]
      exact this
  | _ =>
    intro k o j h
    cases j <;> cases h
end
section
variable {C : Py.Cx} {P : Program} {w : World} {K : PySem.W.Frag} {mg : Str → Option Value} {base : Heap} {g : Gx} {lv : Nat} {c : Addr}
variable (C K c) in
def tP (es : Py.E) : TA := fun σ H Q => ∃ (A : Bn) (H0 : Hp) (o : List Nat) (env : Py.Env) (ps : List V) (qs : List Tr), Here A c H0 ∧ env.length = σ.length ∧ ps.length = qs.length ∧ SI K c A H0 o (σ ++ ps.map some) H (env ++ qs.map some) ∧ (∀ i, i < env.length → esc false es i = true → o.contains i = false) ∧ (∀ i, o.contains i = true → i < env.length + qs.length) ∧
  WP ((Py.den C es env).bind Py.argsOf) (fun ts => ∀ vs H', vs.length = ts.length → SI K c A H0 (pendO es (env.length + qs.length) o) (σ ++ (ps ++ vs).map some) H' (env ++ (qs ++ ts).map some) → Q vs H')
theorem esc_cons (a r : Py.E) (i : Nat) : esc false (.cons a r) i = (esc false a i || esc false r i) := rfl
theorem pa_par (F : Facts C P w K mg base g lv c) {X : L2.Cx} {sc : Scope} (G : Good P w K mg base g lv X sc) (es : Py.E) : ∀ {xs : List Expr}, chkL g sc es xs = true → PA X xs (tP C K c es) := by
  induction es with
  | nil =>
    intro xs h
    cases xs with
    | nil =>
      refine PA.imp pa_nil fun σ H Q ⟨A, H0, o, env, ps, qs, hA, l1, l2, S, he, hb, hw⟩ => ?_
      have hw' : ∀ (vs : List V) (H' : Hp), vs.length = ([] : List Tr).length → SI K c A H0 (pendO .nil (env.length + qs.length) o) (σ ++ (ps ++ vs).map some) H' (env ++ ((qs ++ ([] : List Tr)).map some : Py.Env)) → Q vs H' := hw
      exact hw' [] H rfl (by simpa [pendO] using S)
    | cons _ _ => cases h
  | cons a r _ ih =>
    intro xs h
    cases xs with
    | nil => cases h
    | cons x xs =>
      obtain ⟨h1, h2⟩ := andB (show (chk g sc a x && chkL g sc r xs) = true from h)
      refine PA.imp (pa_cons ((snd_all F a).ex.pe X sc x (if fresh a then .f else .s) G h1 (fun z => by
        by_cases q : fresh a = true
        · exact q
        · rw [if_neg q] at z; cases z)) (ih h2) (star_of h1 xs X.env)) fun σ H Q ⟨A, H0, o, env, ps, qs, hA, l1, l2, S, he, hb, hw⟩ => ?_
      have Sg := S.grow
      have lenE : ((env ++ qs.map some : Py.Env)).length = env.length + qs.length := by simp
      have lenS : (σ ++ ps.map some).length = env.length + qs.length := by simp [l1, l2]
      rw [den_cons_args] at hw
      refine ⟨Ban A o (σ ++ ps.map some ++ [none]) (env ++ qs.map some ++ [none]), env, Sg.here hA, ⟨fun i t e => ?_, l1⟩, (wp_and.mp hw).mono fun t ht v H1 x1 k1 r1 => ?_⟩
      · have hi := (List.getElem?_eq_some_iff.mp e).1
        obtain ⟨v, g1, g2, g3⟩ := Sg.ev.get i t (by rw [List.append_assoc, List.getElem?_append_left hi]; exact e)
        refine ⟨v, by rw [List.append_assoc, List.getElem?_append_left (by rw [← l1]; exact hi)] at g1; exact g1, g2, fun q => g3 ?_⟩
        have q' : esc false a i = true := by
          revert q
          cases fresh a <;> exact fun q => q
        rw [he i hi (by rw [esc_cons, q']; rfl)]; rfl
      · have no : o.contains (env.length + qs.length) = false := by
          rw [Bool.eq_false_iff]
          exact fun z => Nat.lt_irrefl _ (hb _ z)
        have S1 := Sg.slot (fr := fresh a) hA rfl x1 k1 (env.length + qs.length) r1
        have e1 : (σ ++ ps.map some ++ [none]).set (env.length + qs.length) (some v) = σ ++ (ps ++ [v]).map some := by
          rw [← lenS, List.set_append_right _ _ (Nat.le_refl _)]
          simp
        have e2 : Py.setv (env ++ qs.map some ++ [none]) (env.length + qs.length) t = env ++ (qs ++ [t]).map some := by
          have := setv_app1 (env ++ qs.map some) [] t
          rw [lenE] at this
          rw [this]
          simp
        rw [e1, e2] at S1
        refine ⟨A, H0, if fresh a then (env.length + qs.length) :: o else o, env, ps ++ [v], qs ++ [t], hA, l1, by simp [l2], S1.weak hA (fun i hi => ?_), fun i hi hei => ?_, fun i hi => ?_, wp_and.mpr ((wp_and.mp ht).mono fun y hy => ?_)⟩
        · rw [slot2_has]
          by_cases q : fresh a = true
          · rw [if_pos q, List.contains_cons] at hi
            rw [q]
            by_cases e : i = env.length + qs.length
            · simp [e]
            · simp [e] at hi ⊢; exact hi
          · rw [if_neg q] at hi
            have ne : i ≠ env.length + qs.length := fun e => by rw [e, no] at hi; cases hi
            rw [hi]; simp [ne]
        · have q := he i hi (by rw [esc_cons, hei, Bool.or_true])
          by_cases q2 : fresh a = true
          · rw [if_pos q2, List.contains_cons, q]
            have : i ≠ env.length + qs.length := by omega
            simp [this]
          · rw [if_neg q2]; exact q
        · rw [List.length_append]
          by_cases q2 : fresh a = true
          · rw [if_pos q2, List.contains_cons] at hi
            simp only [Bool.or_eq_true, beq_iff_eq] at hi
            rcases hi with hi | hi
            · rw [hi]; simp
            · have := hb i hi; simp; omega
          · rw [if_neg q2] at hi
            have := hb i hi; simp; omega
        · obtain ⟨ys, rfl, q⟩ := consT_wp hy
          refine fun vs H2 hl S2 => q (v :: vs) H2 (by simp [hl]) ?_
          have e3 : env.length + (qs ++ [t]).length = env.length + qs.length + 1 := by simp; omega
          rw [e3] at S2
          have S3 : SI K c A H0 (pendO (.cons a r) (env.length + qs.length) o) (σ ++ (ps ++ [v] ++ vs).map some) H2 (env ++ (qs ++ [t] ++ ys).map some) := S2
          simpa [List.append_assoc] using S3
  | _ =>
    intro xs h
    cases h
end
end Snd

set_option Elab.async false
set_option linter.all false
set_option maxRecDepth 100000
set_option maxHeartbeats 2000000
namespace Snd
open PySem PySem.Spec L2
open PyProof.Rows hiding St

def noComp : Expr → Bool
  | .ListComp _ _ _ _ => false
  | .SetComp _ _ _ _ => false
  | .DictComp _ _ _ _ _ => false
  | _ => true
theorem noComp_ok {x : Expr} (h : noComp x = true) (t : Option Expr) (l : Nat) (env : Env) : swapsWith x t l env = pure false := by
  cases x <;> first
    | rfl
    | cases h
def isSub : Expr → Bool
  | .Subscript _ _ _ => true
  | .Tuple _ _ _ => true
  | _ => false
theorem noSwap_ok {x t : Expr} (h : isSub t = true) (l : Nat) (env : Env) : swapsWith x (some t) l env = pure false := by
  cases t <;> first
    | (cases h; done)
    | (cases x <;> rfl)
/-- a tuple target is stored in order -/
def noSw : Expr → Bool
  | .Tuple vs _ _ => vs.all (foldedForSure 8)
  | _ => true
theorem noSw_ok {tg x : Expr} (ht : isTupTg tg = true) (h : noSw x = true) (env : Env) : swappedStores [tg] x env = pure none := by
  cases tg <;> first
    | (cases ht; done)
    | skip
  cases x <;> first
    | rfl
    | skip
  have h : (List.all _ (foldedForSure 8)) = true := h
  unfold swappedStores
  simp only [h, if_true]
  repeat' split
  all_goals rfl
def isStar : Expr → Bool
  | .Starred _ _ => true
  | _ => false
def nmOf (env : Env) (l : Nat) (ts : List Expr) : List Str := ts.filterMap fun
  | .Name id pos => if env.kindOf id == some .local && pos.line == l then some id else none
  | _ => none
theorem nmOf_cons {env : Env} {l : Nat} {y : Str} {py : Pos} {ts : List Expr} (h1 : env.kindOf y = some .local) (h2 : (py.line == l) = true) : nmOf env l (.Name y py :: ts) = y :: nmOf env l ts := by
  unfold nmOf
  rw [List.filterMap_cons]
  simp only [h1, h2, beq_self_eq_true, Bool.and_true, if_true]
/-- two plain names, stored from the right -/
def parB2 (sc : Scope) (y : Str) (py : Pos) (z : Str) (pz : Pos) (a b : Expr) : Bool :=
  decide (sc.names.lookup y = some .local) && decide (sc.names.lookup z = some .local) && (pz.line == py.line) && !(decide (y = z)) && !([a, b].all (foldedForSure 8)) && !([a, b].all (constantsAlone 8)) && !isStar a && !isStar b
theorem block_fn {env : Env} (hk : env.scope.kind = .function) : env.blockKind = .function := by unfold Env.blockKind; rw [hk]; rfl
theorem parB2_ok {sc : Scope} {y z : Str} {py pz pt pt2 : Pos} {kt k2 : Nat} {a b : Expr} {env : Env} (hs : env.scope = sc) (hk : sc.kind = .function) (h : parB2 sc y py z pz a b = true) :
    swappedStores [.Tuple [.Name y py, .Name z pz] kt pt] (.Tuple [a, b] k2 pt2) env = pure (some [y, z]) ∧ env.scope.names.lookup y = some .local ∧ env.scope.names.lookup z = some .local := by
  subst hs
  unfold parB2 at h
  simp only [Bool.and_eq_true, decide_eq_true_eq, Bool.not_eq_true', decide_eq_false_iff_not] at h
  obtain ⟨⟨⟨⟨⟨⟨⟨h1, h2⟩, h3⟩, h4⟩, h5⟩, h6⟩, h7⟩, h8⟩ := h
  refine ⟨?_, h1, h2⟩
  have hb := block_fn hk
  have e2 : ([y, z].eraseDups).length = 2 := by
    rw [List.eraseDups_cons, show ([z].filter fun b => !b == y) = [z] by simp [Ne.symm h4], List.eraseDups_cons]
    simp
  have nm : nmOf env py.line [Expr.Name y py, Expr.Name z pz] = [y, z] := by
    rw [nmOf_cons h1 (by simp), nmOf_cons h2 h3]; rfl
  unfold swappedStores
  refine (if_neg (by rw [hb]; simp)).trans ?_
  refine (if_neg ?_).trans ?_
  · cases a <;> first
      | (cases h7; done)
      | (cases b <;> first
          | (cases h8; done)
          | exact Bool.false_ne_true)
  refine (if_neg ?_).trans ?_
  · change ¬ (((nmOf env py.line [Expr.Name y py, Expr.Name z pz]).length != 2 || (nmOf env py.line [Expr.Name y py, Expr.Name z pz]).eraseDups.length != (nmOf env py.line [Expr.Name y py, Expr.Name z pz]).length) = true)
    rw [nm, e2]
    exact fun z => nomatch z
  refine (if_neg (by rw [h5]; exact Bool.false_ne_true)).trans ?_
  refine (if_neg (by rw [h6]; exact Bool.false_ne_true)).trans ?_
  exact congrArg (fun n => (pure (some n) : Sem (Option (List Str)))) nm
def parB3 (sc : Scope) (y : Str) (py : Pos) (z : Str) (pz : Pos) (u : Str) (pu : Pos) (a b d : Expr) : Bool :=
  decide (sc.names.lookup y = some .local) && decide (sc.names.lookup z = some .local) && decide (sc.names.lookup u = some .local) && (pz.line == py.line) && (pu.line == py.line) && !(decide (y = z)) && !(decide (y = u)) && !(decide (z = u)) && !([a, b, d].all (foldedForSure 8)) && !([a, b, d].all (constantsAlone 8)) && !isStar a && !isStar b && !isStar d
theorem parB3_ok {sc : Scope} {y z u : Str} {py pz pu pt pt2 : Pos} {kt k2 : Nat} {a b d : Expr} {env : Env} (hs : env.scope = sc) (hk : sc.kind = .function) (h : parB3 sc y py z pz u pu a b d = true) :
    swappedStores [.Tuple [.Name y py, .Name z pz, .Name u pu] kt pt] (.Tuple [a, b, d] k2 pt2) env = pure (some [y, z, u]) ∧ env.scope.names.lookup y = some .local ∧ env.scope.names.lookup z = some .local ∧ env.scope.names.lookup u = some .local := by
  subst hs
  unfold parB3 at h
  simp only [Bool.and_eq_true, decide_eq_true_eq, Bool.not_eq_true', decide_eq_false_iff_not] at h
  obtain ⟨⟨⟨⟨⟨⟨⟨⟨⟨⟨⟨⟨h1, h2⟩, h3⟩, h4⟩, h5⟩, h6⟩, h7⟩, h8⟩, h9⟩, h10⟩, h11⟩, h12⟩, h13⟩ := h
  refine ⟨?_, h1, h2, h3⟩
  have hb := block_fn hk
  have e2 : ([y, z, u].eraseDups).length = 3 := by
    rw [List.eraseDups_cons, show ([z, u].filter fun b => !b == y) = [z, u] by simp [Ne.symm h6, Ne.symm h7], List.eraseDups_cons, show ([u].filter fun b => !b == z) = [u] by simp [Ne.symm h8], List.eraseDups_cons]
    simp
  have nm : nmOf env py.line [Expr.Name y py, Expr.Name z pz, Expr.Name u pu] = [y, z, u] := by
    rw [nmOf_cons h1 (by simp), nmOf_cons h2 h4, nmOf_cons h3 h5]; rfl
  unfold swappedStores
  refine (if_neg (by rw [hb]; simp)).trans ?_
  refine (if_neg ?_).trans ?_
  · intro hh
    obtain ⟨x, hx, hy⟩ := List.any_eq_true.mp hh
    simp only [List.mem_cons, List.not_mem_nil, or_false] at hx
    rcases hx with rfl | rfl | rfl
    · cases x <;> first
        | (cases h11; done)
        | cases hy
    · cases x <;> first
        | (cases h12; done)
        | cases hy
    · cases x <;> first
        | (cases h13; done)
        | cases hy
  refine (if_neg ?_).trans ?_
  · change ¬ (((nmOf env py.line [Expr.Name y py, Expr.Name z pz, Expr.Name u pu]).length != 3 || (nmOf env py.line [Expr.Name y py, Expr.Name z pz, Expr.Name u pu]).eraseDups.length != (nmOf env py.line [Expr.Name y py, Expr.Name z pz, Expr.Name u pu]).length) = true)
    rw [nm, e2]
    exact fun z => nomatch z
  refine (if_neg (by rw [h9]; exact Bool.false_ne_true)).trans ?_
  refine (if_neg (by rw [h10]; exact Bool.false_ne_true)).trans ?_
  exact congrArg (fun n => (pure (some n) : Sem (Option (List Str)))) nm
/-- the names are not all plain locals on one line: stored from the left -/
def nlB (sc : Scope) (y : Str) (py : Pos) (l : Nat) : Bool := decide (sc.names.lookup y = some .local) && (py.line == l)
theorem nmOf_len {env : Env} {l : Nat} {y : Str} {py : Pos} {ts : List Expr} : (nmOf env l (.Name y py :: ts)).length = (if nlB env.scope y py l = true then 1 else 0) + (nmOf env l ts).length := by
  by_cases q : nlB env.scope y py l = true
  · obtain ⟨h1, h2⟩ := andB q
    rw [nmOf_cons (of_decide_eq_true h1) h2, List.length_cons, if_pos q]
    omega
  · have e : (env.kindOf y == some NameKind.local && py.line == l) = false := by
      rw [Bool.eq_false_iff]
      intro z
      apply q
      unfold nlB
      obtain ⟨h1, h2⟩ := andB z
      rw [h2, Bool.and_true, decide_eq_true_eq]
      exact eq_of_beq h1
    have e2 : nmOf env l (.Name y py :: ts) = nmOf env l ts := by
      unfold nmOf
      rw [List.filterMap_cons]
      simp only [e, Bool.false_eq_true, if_false]
    rw [e2, if_neg q]
    omega
theorem parN2_ok {sc : Scope} {y z : Str} {py pz pt pt2 : Pos} {kt k2 : Nat} {a b : Expr} {env : Env} (hs : env.scope = sc) (h : (nlB sc y py py.line && nlB sc z pz py.line) = false) : swappedStores [.Tuple [.Name y py, .Name z pz] kt pt] (.Tuple [a, b] k2 pt2) env = pure none := by
  subst hs
  have nm : ((nmOf env py.line [Expr.Name y py, Expr.Name z pz]).length != 2) = true := by
    rw [nmOf_len, nmOf_len]
    have : (nmOf env py.line []).length = 0 := rfl
    rw [this]
    revert h
    cases nlB env.scope y py py.line <;> cases nlB env.scope z pz py.line <;> simp
  unfold swappedStores
  show (if _ then _ else _) = _
  split
  · rfl
  · show (if _ then _ else _) = _
    split
    · rfl
    · refine (if_pos ?_).trans rfl
      change ((nmOf env py.line [Expr.Name y py, Expr.Name z pz]).length != 2 || (nmOf env py.line [Expr.Name y py, Expr.Name z pz]).eraseDups.length != (nmOf env py.line [Expr.Name y py, Expr.Name z pz]).length) = true
      rw [nm, Bool.true_or]
theorem parN3_ok {sc : Scope} {y z u : Str} {py pz pu pt pt2 : Pos} {kt k2 : Nat} {a b d : Expr} {env : Env} (hs : env.scope = sc) (h : (nlB sc y py py.line && nlB sc z pz py.line && nlB sc u pu py.line) = false) : swappedStores [.Tuple [.Name y py, .Name z pz, .Name u pu] kt pt] (.Tuple [a, b, d] k2 pt2) env = pure none := by
  subst hs
  have nm : ((nmOf env py.line [Expr.Name y py, Expr.Name z pz, Expr.Name u pu]).length != 3) = true := by
    rw [nmOf_len, nmOf_len, nmOf_len]
    have : (nmOf env py.line []).length = 0 := rfl
    rw [this]
    revert h
    cases nlB env.scope y py py.line <;> cases nlB env.scope z pz py.line <;> cases nlB env.scope u pu py.line <;> simp
  unfold swappedStores
  show (if _ then _ else _) = _
  split
  · rfl
  · show (if _ then _ else _) = _
    split
    · rfl
    · refine (if_pos ?_).trans rfl
      change ((nmOf env py.line [Expr.Name y py, Expr.Name z pz, Expr.Name u pu]).length != 3 || (nmOf env py.line [Expr.Name y py, Expr.Name z pz, Expr.Name u pu]).eraseDups.length != (nmOf env py.line [Expr.Name y py, Expr.Name z pz, Expr.Name u pu]).length) = true
      rw [nm, Bool.true_or]
mutual
def chkS (g : Gx) (sc : Scope) : Py.S → Stmt → Bool
  | .skip => fun st => (match st with
    | .Pass _ => true
    | .Expr (.Constant (.str _) _ _) _ => true
    | _ => false)
  | .asg i e => fun st => (match st with
    | .Assign [.Name y _] x _ => decide (g.N[i]? = some y) && locB sc y && chk g sc e x
    | _ => false)
  | .asgT t e => fun st => (match st with
    | .Assign [tg] x _ => isTupTg tg && chkT g sc t tg && chk g sc e x && noSw x
    | _ => false)
  | .par is es => fun st => (match st with
    | .Assign [.Tuple [.Name y py, .Name z pz] _ _] (.Tuple [a, b] _ _) _ => (match is with
      | [i, j] => decide (g.N[i]? = some y) && decide (g.N[j]? = some z) && !(i == j) && chkL g sc es [a, b] && (parB2 sc y py z pz a b || (locB sc y && locB sc z && !(nlB sc y py py.line && nlB sc z pz py.line)))
      | _ => false)
    | .Assign [.Tuple [.Name y py, .Name z pz, .Name u pu] _ _] (.Tuple [a, b, d] _ _) _ => (match is with
      | [i, j, k] => decide (g.N[i]? = some y) && decide (g.N[j]? = some z) && decide (g.N[k]? = some u) && !(i == j) && !(i == k) && !(j == k) && chkL g sc es [a, b, d] && (parB3 sc y py z pz u pu a b d || (locB sc y && locB sc z && locB sc u && !(nlB sc y py py.line && nlB sc z pz py.line && nlB sc u pu py.line)))
      | _ => false)
    | _ => false)
  | .seti i k e => fun st => (match st with
    | .Assign [.Subscript (.Name y _) kx _] x _ => chk g sc (.var i) (.Name y ⟨0, 0, 0, 0⟩) && chk g sc k kx && chk g sc e x
    | _ => false)
  | .aug i e => fun st => (match st with
    | .AugAssign (.Name y _) .Add x _ => decide (g.N[i]? = some y) && locB sc y && chk g sc e x
    | _ => false)
  | .ext i e => fun st => (match st with
    | .AugAssign (.Name y _) .Add x _ => decide (g.N[i]? = some y) && locB sc y && chk g sc e x
    | _ => false)
  | .app i e => fun st => (match st with
    | .Expr (.Call (.Attribute (.Name y _) m ap) [x] [] cp) _ => decide (m = "append") && decide (ap.endLine = cp.line) && chk g sc (.var i) (.Name y ⟨0, 0, 0, 0⟩) && chk g sc e x
    | _ => false)
  | .popT t i => fun st => (match st with
    | .Assign [tg] (.Call (.Attribute (.Name y _) m ap) [] [] cp) _ => decide (m = "pop") && decide (ap.endLine = cp.line) && chk g sc (.var i) (.Name y ⟨0, 0, 0, 0⟩) && chkT g sc t tg
    | _ => false)
  | .appPop j i k => fun st => (match st with
    | .Expr (.Call (.Attribute (.Name y _) m ap) [.Call (.Attribute (.Name z _) m2 ap2) [x] [] cp2] [] cp) _ => decide (m = "append") && decide (m2 = "pop") && decide (ap.endLine = cp.line) && decide (ap2.endLine = cp2.line) && chk g sc (.var j) (.Name y ⟨0, 0, 0, 0⟩) && chk g sc (.var i) (.Name z ⟨0, 0, 0, 0⟩) && chk g sc k x
    | _ => false)
  | .expr e => fun st => (match st with
    | .Expr x _ => chk g sc e x && noComp x
    | _ => false)
  | .ite c a b => fun st => (match st with
    | .If x sa sb _ => chk g sc c x && chkB g sc a sa && chkB g sc b sb
    | _ => false)
  | .whl c b => fun st => (match st with
    | .While x sb [] _ => chk g sc c x && chkB g sc b sb
    | _ => false)
  | .for_ t it b => fun st => (match st with
    | .For tg iter sb [] _ => (chkIt g sc (isTupTg tg) it iter || chk g sc it iter) && chkT g sc t tg && chkB g sc b sb
    | _ => false)
  | .ret e => fun st => (match st with
    | .Return (some x) _ => chk g sc e x
    | _ => false)
  | .retN => fun st => (match st with
    | .Return none _ => true
    | _ => false)
  | .brk => fun st => (match st with
    | .Break _ => true
    | _ => false)
  | .raise _ => fun _ => true
  | .never => fun _ => true
  | _ => fun _ => false
def chkB (g : Gx) (sc : Scope) : Py.S → List Stmt → Bool
  | .skip => fun sts => sts.isEmpty
  | .seq a b => fun sts => (match sts with
    | st :: rest => chkS g sc a st && chkB g sc b rest
    | [] => false)
  | .never => fun _ => true
  | _ => fun _ => false
end
end Snd

set_option Elab.async false
set_option linter.all false
set_option maxRecDepth 100000
set_option maxHeartbeats 2000000
namespace Snd
open PySem PySem.Spec L2
open PyProof.Rows hiding St
section
variable {C : Py.Cx} {P : Program} {w : World} {K : PySem.W.Frag} {mg : Str → Option Value} {base : Heap} {g : Gx} {lv : Nat} {c : Addr}
variable (K c) in
/-- what follows a statement (r: the owning slots behind it; bk: those behind a break) -/
def post (A : Bn) (H0 : Hp) (r : OR) (bk : List Nat) (D : Ends) : Py.R → Prop
  | .nx e => ∀ o', r = .ok o' → ∀ σ' H', SI K c A H0 o' σ' H' e → D.nx σ' H'
  | .rt t => ∀ v H', Ext c H0 H' → CupOk H' c → Rep K H' A c t v → D.rt v H'
  | .bk e => ∀ σ' H', SI K c A H0 bk σ' H' e → D.bk σ' H'
variable (C K c) in
def tS (s : Py.S) (bk o : List Nat) : TS := fun D σ H => ∃ (A : Bn) (H0 : Hp) (env : Py.Env), Here A c H0 ∧ SI K c A H0 o σ H env ∧ WP (Py.exec C s env) (post K c A H0 (outS s bk o) bk D)
variable (C P w K mg base g lv c) in
structure SndS (s : Py.S) : Prop where
  st : ∀ (X : L2.Cx) (sc : Scope) (st : Stmt) (bk o : List Nat), GoodS P w K mg base g lv X sc → chkS g sc s st = true → outS s bk o ≠ .bad → PS X st (tS C K c s bk o)
  bl : ∀ (X : L2.Cx) (sc : Scope) (sts : List Stmt) (bk o : List Nat), GoodS P w K mg base g lv X sc → chkB g sc s sts = true → outS s bk o ≠ .bad → PSs X sts (tS C K c s bk o)
theorem SndS.only {s : Py.S} (h : ∀ (X : L2.Cx) (sc : Scope) (st : Stmt) (bk o : List Nat), GoodS P w K mg base g lv X sc → chkS g sc s st = true → outS s bk o ≠ .bad → PS X st (tS C K c s bk o)) (hb : ∀ sc sts, chkB g sc s sts = false) : SndS C P w K mg base g lv c s :=
  ⟨h, fun X sc sts bk o G h => by rw [hb] at h; cases h⟩
theorem freeEv {A : Bn} {H0 H : Hp} {o : List Nat} {σ : L2.St} {env : Py.Env} (S : SI K c A H0 o σ H env) {es : Nat → Bool} : Ev K c es B0 σ H env := S.ev.free
theorem freeHere {A : Bn} {H0 H : Hp} {o : List Nat} {σ : L2.St} {env : Py.Env} (S : SI K c A H0 o σ H env) : Here B0 c H := ⟨S.cup, fun _ z => z.elim⟩
theorem ss_skip : SndS C P w K mg base g lv c .skip := by
  refine ⟨fun X sc st bk o G h _ => ?_, fun X sc sts bk o G h _ => ?_⟩
  · have key : ∀ D σ H, tS C K c .skip bk o D σ H → tNext D σ H := fun D σ H ⟨A, H0, env, hA, S, hw⟩ => (show ∀ o', OR.ok o = .ok o' → ∀ σ' H', SI K c A H0 o' σ' H' env → D.nx σ' H' from hw) o rfl σ H S
    unfold chkS at h
    split at h
    · exact PS.imp ps_pass key
    · exact PS.imp ps_doc key
    · cases h
  · cases sts with
    | nil => exact PSs.imp pss_nil fun D σ H ⟨A, H0, env, hA, S, hw⟩ => (show ∀ o', OR.ok o = .ok o' → ∀ σ' H', SI K c A H0 o' σ' H' env → D.nx σ' H' from hw) o rfl σ H S
    | cons _ _ => cases h
theorem ss_seq {a b : Py.S} (ha : SndS C P w K mg base g lv c a) (hb : SndS C P w K mg base g lv c b) : SndS C P w K mg base g lv c (.seq a b) := by
  refine ⟨fun X sc st bk o G h _ => (by cases h), fun X sc sts bk o G h hn => ?_⟩
  cases sts with
  | nil => cases h
  | cons st rest =>
    obtain ⟨h1, h2⟩ := andB (show (chkS g sc a st && chkB g sc b rest) = true from h)
    have eO : outS (.seq a b) bk o = (outS a bk o).bindO fun o => outS b bk o := rfl
    cases hoa : outS a bk o with
    | bad => rw [eO, hoa] at hn; exact absurd rfl hn
    | dead =>
      refine PSs.imp (pss_cons (ha.st X sc st bk o G h1 (by rw [hoa]; exact fun z => nomatch z)) (pss_never (sts := rest))) fun D σ H ⟨A, H0, env, hA, S, hw⟩ => ?_
      refine ⟨A, H0, env, hA, S, (wp_and.mp hw).mono fun r hr => ?_⟩
      cases r with
      | nx e => exact fun o' q => by rw [hoa] at q; cases q
      | rt t => exact hr
      | bk e => exact hr
    | ok oa =>
      have eO' : outS (.seq a b) bk o = outS b bk oa := by rw [eO, hoa]; rfl
      refine PSs.imp (pss_cons (ha.st X sc st bk o G h1 (by rw [hoa]; exact fun z => nomatch z)) (hb.bl X sc rest bk oa G h2 (by rw [← eO']; exact hn))) fun D σ H ⟨A, H0, env, hA, S, hw⟩ => ?_
      refine ⟨A, H0, env, hA, S, (wp_and.mp hw).mono fun r hr => ?_⟩
      cases r with
      | nx e =>
        intro o' q σ' H' S'
        rw [hoa] at q
        cases q
        exact ⟨A, H0, e, hA, S', by rw [← eO']; exact hr⟩
      | rt t => exact hr
      | bk e => exact hr
theorem ss_asg (F : Facts C P w K mg base g lv c) (i : Nat) (e : Py.E) : SndS C P w K mg base g lv c (.asg i e) := by
  refine .only (fun X sc st bk o G h _ => ?_) fun _ _ => rfl
  unfold chkS at h
  split at h
  · rename_i y py x spos
    obtain ⟨h1, h2, h3⟩ := andB3 h
    refine PS.imp (ps_name F G (m := if fresh e then .f else .s) (of_decide_eq_true h1) h2 h3 (fun z => by
        by_cases q : fresh e = true
        · exact q
        · rw [if_neg q] at z; cases z)) fun D σ H ⟨A, H0, env, hA, S, hw⟩ => ?_
    have S1 : SI K c A H0 (dropE false o e) σ H env := S.weak hA dropE_out
    have ew : isW (if fresh e then Md.f else Md.s) = false := by cases fresh e <;> rfl
    refine ⟨Ban A (dropE false o e) σ env, env, S1.here hA, by rw [ew]; exact S1.esc, (wp_and.mp hw).mono fun t ht v H1 x1 k1 r1 => ?_⟩
    have ht : ∀ o', OR.ok (slot2 (fresh e) i (dropE false o e)) = .ok o' → ∀ σ' H', SI K c A H0 o' σ' H' (Py.setv env i t) → D.nx σ' H' := ht
    exact ht _ rfl _ _ (S1.slot hA rfl x1 k1 i r1)
  · cases h
theorem ss_expr (F : Facts C P w K mg base g lv c) (e : Py.E) : SndS C P w K mg base g lv c (.expr e) := by
  refine .only (fun X sc st bk o G h _ => ?_) fun _ _ => rfl
  unfold chkS at h
  split at h
  · obtain ⟨h1, h2⟩ := andB h
    refine PS.imp (ps_expr ((snd_all F e).ex.pe X sc _ .w G.g h1 okW) (noComp_ok h2 _ _ _)) fun D σ H ⟨A, H0, env, hA, S, hw⟩ => ?_
    refine ⟨B0, env, freeHere S, freeEv S, (wp_and.mp hw).mono fun t ht v H1 x1 k1 r1 => ?_⟩
    exact (show ∀ o', OR.ok o = .ok o' → ∀ σ' H', SI K c A H0 o' σ' H' env → D.nx σ' H' from ht) o rfl σ H1 (S.move x1 k1)
  · cases h
theorem ss_ret (F : Facts C P w K mg base g lv c) (e : Py.E) : SndS C P w K mg base g lv c (.ret e) := by
  refine .only (fun X sc st bk o G h _ => ?_) fun _ _ => rfl
  unfold chkS at h
  split at h
  · refine PS.imp (ps_ret ((snd_all F e).ex.pe X sc _ .s G.g h (fun z => nomatch z))) fun D σ H ⟨A, H0, env, hA, S, hw⟩ => ?_
    have S1 : SI K c A H0 [] σ H env := S.weak hA fun i h => by cases h
    have mA : ∀ a, A a → Ban A [] σ env a := fun a h => .inl h
    refine ⟨A, env, ⟨S.cup, fun a h => (S1.here hA).dom a (.inl h)⟩, ⟨fun i t q => ?_, S.ev.len⟩, (wp_and.mp hw).mono fun t ht v H1 x1 k1 r1 => ?_⟩
    · obtain ⟨v, g1, g2, g3⟩ := S1.ev.get i t q
      have r := (g3 rfl).mono mA
      exact ⟨v, g1, r.weak, fun _ => r⟩
    · exact (show ∀ v H', Ext c H0 H' → CupOk H' c → Rep K H' A c t v → D.rt v H' from ht) v H1 (S.ext.trans x1) k1 r1
  · cases h
theorem ss_retN : SndS C P w K mg base g lv c .retN := by
  refine .only (fun X sc st bk o G h _ => ?_) fun _ _ => rfl
  unfold chkS at h
  split at h
  · refine PS.imp ps_retN fun D σ H ⟨A, H0, env, hA, S, hw⟩ => ?_
    exact (show ∀ v H', Ext c H0 H' → CupOk H' c → Rep K H' A c .non v → D.rt v H' from hw) .non H S.ext S.cup repN
  · cases h
theorem ss_brk : SndS C P w K mg base g lv c .brk := by
  refine .only (fun X sc st bk o G h hn => ?_) fun _ _ => rfl
  unfold chkS at h
  split at h
  · refine PS.imp ps_break fun D σ H ⟨A, H0, env, hA, S, hw⟩ => ?_
    refine (show ∀ σ' H', SI K c A H0 bk σ' H' env → D.bk σ' H' from hw) σ H (S.weak hA fun i hi => ?_)
    have e : outS .brk bk o = if bk.all fun i => o.contains i then .dead else .bad := rfl
    by_cases q : (bk.all fun i => o.contains i) = true
    · exact List.all_eq_true.mp q i (by simpa using hi)
    · rw [e, if_neg q] at hn; exact absurd rfl hn
  · cases h
theorem ss_raise (n : Nat) : SndS C P w K mg base g lv c (.raise n) := .only (fun X sc st bk o G h _ => PS.imp ps_never fun D σ H ⟨A, H0, env, hA, S, hw⟩ => hw) fun _ _ => rfl
theorem ss_never : SndS C P w K mg base g lv c .never := ⟨fun X sc st bk o G h _ => PS.imp ps_never fun D σ H ⟨A, H0, env, hA, S, hw⟩ => hw, fun X sc st bk o G h _ => PSs.imp pss_never fun D σ H ⟨A, H0, env, hA, S, hw⟩ => hw⟩
theorem ss_no {s : Py.S} (h1 : ∀ sc st, chkS g sc s st = false) (h2 : ∀ sc sts, chkB g sc s sts = false) : SndS C P w K mg base g lv c s := ⟨fun X sc st bk o G h => (by rw [h1] at h; cases h), fun X sc sts bk o G h => (by rw [h2] at h; cases h)⟩
/-- what a branch leaves, weakened to what both leave -/
theorem post_meetL {A : Bn} {H0 : Hp} {ra rb : OR} {bk : List Nat} {D : Ends} (hA : Here A c H0) (hb : rb ≠ .bad) {r : Py.R} (h : post K c A H0 (ra.meet rb) bk D r) : post K c A H0 ra bk D r := by
  cases r with
  | nx e =>
    intro o' q σ' H' S
    subst q
    cases rb with
    | bad => exact absurd rfl hb
    | dead => exact h o' rfl σ' H' S
    | ok ob => exact h _ rfl σ' H' (S.weak hA fun i hi => by simp only [List.contains_iff_mem, List.mem_filter] at hi ⊢; exact hi.1)
  | rt t => exact h
  | bk e => exact h
theorem post_meetR {A : Bn} {H0 : Hp} {ra rb : OR} {bk : List Nat} {D : Ends} (hA : Here A c H0) (hb : ra ≠ .bad) {r : Py.R} (h : post K c A H0 (ra.meet rb) bk D r) : post K c A H0 rb bk D r := by
  cases r with
  | nx e =>
    intro o' q σ' H' S
    subst q
    cases ra with
    | bad => exact absurd rfl hb
    | dead => exact h o' rfl σ' H' S
    | ok ob => exact h _ rfl σ' H' (S.weak hA fun i hi => by simp only [List.contains_iff_mem, List.mem_filter] at hi ⊢; simpa using hi.2)
  | rt t => exact h
  | bk e => exact h
theorem ss_ite (F : Facts C P w K mg base g lv c) (d : Py.E) {a b : Py.S} (ha : SndS C P w K mg base g lv c a) (hb : SndS C P w K mg base g lv c b) : SndS C P w K mg base g lv c (.ite d a b) := by
  refine .only (fun X sc st bk o G h hn => ?_) fun _ _ => rfl
  unfold chkS at h
  split at h
  · obtain ⟨h1, h2, h3⟩ := andB3 h
    have eO : outS (.ite d a b) bk o = (outS a bk o).meet (outS b bk o) := rfl
    have na : outS a bk o ≠ .bad := fun z => by rw [eO, z] at hn; exact hn rfl
    have nb : outS b bk o ≠ .bad := fun z => by
      rw [eO, z] at hn
      revert hn
      cases outS a bk o <;> exact fun hn => hn rfl
    refine PS.imp (ps_if ((snd_all F d).ex.pt X sc _ G.g h1) (ha.bl X sc _ bk o G h2 na) (hb.bl X sc _ bk o G h3 nb)) fun D σ H ⟨A, H0, env, hA, S, hw⟩ => ?_
    have hw : WP ((Py.den C d env).bind Py.asB) fun r => WP (if r then Py.exec C a env else Py.exec C b env) (post K c A H0 (outS (.ite d a b) bk o) bk D) := by
      refine wp_and.mpr ((wp_and.mp hw).mono fun t ht => wp_and.mp ht)
    refine ⟨env, freeHere S, freeEv S, hw.mono fun r hr H1 x1 k1 => ?_⟩
    have S1 := S.move x1 k1
    cases r with
    | true => exact ⟨A, H0, env, hA, S1, WP.mono hr fun r hr => post_meetL hA nb hr⟩
    | false => exact ⟨A, H0, env, hA, S1, WP.mono hr fun r hr => post_meetR hA na hr⟩
  · cases h
/-- what a loop keeps -/
theorem loopO_ok {f : List Nat → OR} : ∀ {n : Nat} {o inv : List Nat}, loopO f n o = .ok inv → (∀ i, inv.contains i = true → o.contains i = true) ∧ f inv ≠ .bad ∧ ∀ o', f inv = .ok o' → ∀ i, inv.contains i = true → o'.contains i = true
  | 0, o, inv, h => by cases h
  | n + 1, o, inv, h => by
    unfold loopO at h
    cases hf : f o with
    | bad => rw [hf] at h; cases h
    | dead =>
      rw [hf] at h
      cases h
      exact ⟨fun i hi => hi, (by rw [hf]; intro z; cases z), fun o' q => (by rw [hf] at q; cases q)⟩
    | ok o1 =>
      rw [hf] at h
      simp only at h
      by_cases q : (o.all fun i => o1.contains i) = true
      · rw [if_pos q] at h
        cases h
        refine ⟨fun i hi => hi, (by rw [hf]; intro z; cases z), fun o' q' i hi => ?_⟩
        rw [hf] at q'
        cases q'
        exact List.all_eq_true.mp q i (by simpa using hi)
      · rw [if_neg q] at h
        obtain ⟨a1, a2, a3⟩ := loopO_ok h
        refine ⟨fun i hi => ?_, a2, a3⟩
        have := a1 i hi
        simp only [List.contains_iff_mem, List.mem_filter] at this ⊢
        exact this.1
theorem loopO_nd {f : List Nat → OR} : ∀ {n : Nat} {o : List Nat}, loopO f n o ≠ .dead
  | 0, o => fun z => nomatch z
  | n + 1, o => by
    unfold loopO
    cases f o with
    | bad => exact fun z => nomatch z
    | dead => exact fun z => nomatch z
    | ok o1 =>
      simp only
      by_cases q : (o.all fun i => o1.contains i) = true
      · rw [if_pos q]; exact fun z => nomatch z
      · rw [if_neg q]; exact loopO_nd
theorem ss_whl (F : Facts C P w K mg base g lv c) (d : Py.E) {b : Py.S} (hb : SndS C P w K mg base g lv c b) : SndS C P w K mg base g lv c (.whl d b) := by
  refine .only (fun X sc st bk o G h hn => ?_) fun _ _ => rfl
  unfold chkS at h
  split at h
  · obtain ⟨h1, h2⟩ := andB h
    have eO : outS (.whl d b) bk o = loopO (fun o => outS b o o) 8 o := rfl
    cases hl : loopO (fun o => outS b o o) 8 o with
    | bad => rw [eO, hl] at hn; exact absurd rfl hn
    | dead => exact absurd hl loopO_nd
    | ok inv =>
      obtain ⟨i1, i2, i3⟩ := loopO_ok hl
      refine PS.imp (ps_while G.pass ((snd_all F d).ex.pt X sc _ G.g h1) (hb.bl X sc _ inv inv G h2 i2)) fun D σ H ⟨A, H0, env, hA, S, hw⟩ => ?_
      have eR : outS (.whl d b) bk o = .ok inv := by rw [eO, hl]
      rw [eR] at hw
      refine ⟨fun m σ H => ∃ env, SI K c A H0 inv σ H env ∧ WP (Py.whileL (Py.den C d) (Py.exec C b) m env) (post K c A H0 (.ok inv) bk D), ⟨C.W, env, S.weak hA i1, hw⟩, ?_⟩
      rintro m σ H ⟨env, S, hw⟩
      cases m with
      | zero => exact False.elim hw
      | succ m =>
        have hw : WP ((Py.den C d env).bind Py.asB) fun r => WP (if r then (Py.exec C b env).bind fun f => (match f with
      | .nx e => Py.whileL (Py.den C d) (Py.exec C b) m e
      | .bk e => .ret (.nx e)
      | .rt t => .ret (.rt t)) else .ret (.nx env)) (post K c A H0 (.ok inv) bk D) := by
          refine wp_and.mpr ((wp_and.mp hw).mono fun t ht => wp_and.mp ht)
        refine ⟨env, freeHere S, freeEv S, hw.mono fun r hr H1 x1 k1 => ?_⟩
        have S1 := S.move x1 k1
        cases r with
        | false => exact (show ∀ o', OR.ok inv = .ok o' → ∀ σ' H', SI K c A H0 o' σ' H' env → D.nx σ' H' from hr) inv rfl σ H1 S1
        | true =>
          refine ⟨fun σ' H' => ∃ env, SI K c A H0 inv σ' H' env ∧ WP (Py.whileL (Py.den C d) (Py.exec C b) m env) (post K c A H0 (.ok inv) bk D), fun σ' H' q => ⟨m, Nat.lt_succ_self m, q⟩, A, H0, env, hA, S1, (wp_and.mp hr).mono fun f hf => ?_⟩
          cases f with
          | nx e => exact fun o' q σ' H' S' => ⟨e, S'.weak hA (i3 o' q), hf⟩
          | rt t => exact hf
          | bk e => exact fun σ' H' S' => (show ∀ o', OR.ok inv = .ok o' → ∀ σ' H', SI K c A H0 o' σ' H' e → D.nx σ' H' from hf) inv rfl σ' H' S'
  · cases h
end
end Snd

set_option Elab.async false
set_option linter.all false
set_option maxRecDepth 100000
set_option maxHeartbeats 2000000
namespace Snd
open PySem PySem.Spec L2
open PyProof.Rows hiding St
section
variable {K : PySem.W.Frag} {c : Addr} {A : Bn} {H0 H H' : Hp} {o o' : List Nat} {σ : L2.St} {env : Py.Env}
/-- what is owned is a list or a dict -/
theorem SI.notTup (S : SI K c A H0 o σ H env) {a : Addr} (h : Own o σ env a) {vs : List V} : H a ≠ some (.tup vs) := by
  obtain ⟨i, t, h1, h2, h3, h4⟩ := h
  obtain ⟨v, g1, g2, _⟩ := S.ev.get i t h2
  rw [h4] at g1
  cases g1
  intro z
  cases t with
  | lst xs => obtain ⟨b, vs, e, n, s, l⟩ := wLst g2; cases e; rw [s] at z; cases z
  | dct kvs =>
    obtain ⟨b, vs, e, n, l, s⟩ := g2
    cases e
    rcases s with ⟨ks, _, _, q | ⟨_, ob, q⟩⟩ | ⟨ks, _, _, q | ⟨_, ob, q⟩⟩ <;> rw [q] at z <;> cases z
  | _ => cases h3
open Classical in
/-- what is not owned -/
noncomputable def rest (o : List Nat) (σ : L2.St) (env : Py.Env) (H : Hp) : Hp := fun a => if Own o σ env a then none else H a
theorem rest_own {a : Addr} (h : Own o σ env a) : rest o σ env H a = none := by unfold rest; rw [if_pos h]
theorem rest_not {a : Addr} (h : ¬ Own o σ env a) : rest o σ env H a = H a := by unfold rest; rw [if_neg h]
structure Rebase (K : PySem.W.Frag) (c : Addr) (A : Bn) (H0 : Hp) (o : List Nat) (σ : L2.St) (H : Hp) (env : Py.Env) : Prop where
  here : Here A c (rest o σ env H)
  si : SI K c A (rest o σ env H) o σ H env
  ext : ∀ H', Ext c (rest o σ env H) H' → Ext c H0 H'
  back : ∀ o' σ' H' env', SI K c A (rest o σ env H) o' σ' H' env' → SI K c A H0 o' σ' H' env'
theorem SI.rebase (hA : Here A c H0) (S : SI K c A H0 o σ H env) : Rebase K c A H0 o σ H env := by
  have sub : ∀ a ob, H0 a = some ob → a ≠ c → rest o σ env H a = some ob := fun a ob e n => by
    rw [rest_not (fun q => by rw [S.new a q] at e; cases e)]
    exact S.ext a ob e n
  have nc : ¬ Own o σ env c := fun q => (S.there q).2 rfl
  refine ⟨⟨?_, fun a h => ?_⟩, ⟨S.cup, fun a ob e n => ?_, S.ev, fun a h => rest_own h, S.inj, S.nofz⟩, fun H' x a ob e n => x a ob (sub a ob e n) n, fun o' σ' H' env' S' => ⟨S'.cup, fun a ob e n => S'.ext a ob (sub a ob e n) n, S'.ev, fun a h => ?_, S'.inj, S'.nofz⟩⟩
  · obtain ⟨x, y, e, r⟩ := S.cup
    exact ⟨x, y, by rw [rest_not nc]; exact e, r⟩
  · rw [rest_not (fun q => hA.dom a h (S.new a q))]
    exact S.ext.dom S.cup a (hA.dom a h)
  · by_cases q : Own o σ env a
    · rw [rest_own q] at e; cases e
    · rw [rest_not q] at e; exact e
  · have h1 := S'.new a h
    have h2 := (S'.there h).2
    cases q : H0 a with
    | none => rfl
    | some ob => rw [sub a ob q h2] at h1; cases h1
/-- behind a target's stores -/
theorem SI.bind (S : SI K c A H0 o σ H env) {x : Py.Tgt} {σ' : L2.St} {env' : Py.Env} (ht : ∀ i, o.contains i = true → tgtIn x i = false) (hs : ∀ j, tgtIn x j = false → σ'[j]? = σ[j]?) (he : ∀ j, tgtIn x j = false → env'[j]? = env[j]?)
    (ev : Ev K c (fun j => !o.contains j || tgtIn x j) (Ban A o σ env) σ' H env') : SI K c A H0 o σ' H env' := by
  have ow : ∀ a, Own o σ' env' a → Own o σ env a := fun a ⟨i, t, h1, h2, h3, h4⟩ => ⟨i, t, h1, by rw [← he i (ht i h1)]; exact h2, h3, by rw [← hs i (ht i h1)]; exact h4⟩
  have mB : ∀ a, Ban A o σ' env' a → Ban A o σ env a := fun a h => h.elim .inl fun q => .inr (ow a q)
  refine ⟨S.cup, S.ext, ⟨fun i t e => ?_, ev.len⟩, fun a h => S.new a (ow a h), fun i j t u a h1 h2 h3 h4 h5 h6 h7 h8 => ?_, fun a h => S.nofz a (ow a h)⟩
  · obtain ⟨v, g1, g2, g3⟩ := ev.get i t e
    exact ⟨v, g1, g2.mono mB, fun q => (g3 (by simp only [q, Bool.true_or])).mono mB⟩
  · rw [he i (ht i h1)] at h3
    rw [he j (ht j h2)] at h4
    rw [hs i (ht i h1)] at h7
    rw [hs j (ht j h2)] at h8
    exact S.inj i j t u a h1 h2 h3 h4 h5 h6 h7 h8
end
section
variable {C : Py.Cx} {P : Program} {w : World} {K : PySem.W.Frag} {mg : Str → Option Value} {base : Heap} {g : Gx} {lv : Nat} {c : Addr}
theorem less_tgt {o : List Nat} {x : Py.Tgt} : ∀ i, (less o (tgtIn x)).contains i = true → tgtIn x i = false := fun i h => (less_out i h).2
theorem ss_asgT (F : Facts C P w K mg base g lv c) (x : Py.Tgt) (e : Py.E) : SndS C P w K mg base g lv c (.asgT x e) := by
  refine .only (fun X sc st bk o G h _ => ?_) fun _ _ => rfl
  unfold chkS at h
  split at h
  · obtain ⟨h1, h2, h3, h4⟩ := andB4 h
    refine PS.imp (ps_asg ((snd_all F e).ex.pe X sc _ .s G.g h3 (fun z => nomatch z)) ((tgt_all (c := c) G.tgt G.g.K x).1 _ h2) (noSwap_ok (by obtain ⟨a, b, d, e⟩ := isTup_tg h1; rw [e]; rfl) _ _) (noSw_ok h1 h4 _) (by rw [nameT h2]; rfl)) fun D σ H ⟨A, H0, env, hA, S, hw⟩ => ?_
    have S1 : SI K c A H0 (dropE false o e) σ H env := S.weak hA dropE_out
    refine ⟨Ban A (dropE false o e) σ env, env, S1.here hA, S1.esc, (wp_and.mp hw).mono fun t ht v H1 x1 k1 r1 => ?_⟩
    have S2 : SI K c A H0 (less (dropE false o e) (tgtIn x)) σ H1 env := (S1.move x1 k1).weak hA fun i h => (less_out i h).1
    have mB : ∀ a, Ban A (less (dropE false o e) (tgtIn x)) σ env a → Ban A (dropE false o e) σ env a := fun a h => h.elim .inl fun q => .inr (q.mono fun i h => (less_out i h).1)
    refine ⟨Ban A (less (dropE false o e) (tgtIn x)) σ env, _, t, env, S2.ev, (show Rep K H1 _ c t v from r1).mono mB, (bindT_out x (wp_and.mp ht)).mono fun env' ⟨he, hq⟩ σ' _ hs ev => ?_⟩
    exact (show ∀ o', OR.ok (less (dropE false o e) (tgtIn x)) = .ok o' → ∀ σ' H', SI K c A H0 o' σ' H' env' → D.nx σ' H' from hq) _ rfl σ' H1 (S2.bind less_tgt hs he ev)
  · cases h
theorem parO_nd : ∀ (is : List Nat) (es : Py.E) (o : List Nat), parO is es o ≠ .dead
  | [], es, o => by cases es <;> exact fun z => nomatch z
  | i :: is, es, o => by
    cases es with
    | cons a r => exact parO_nd is r _
    | _ => exact fun z => nomatch z
theorem putAll_len : ∀ {is : List Nat} {ts : List Tr} {R : Py.Env → Prop} {env : Py.Env}, WP (Py.putAll is ts env) R → ts.length = is.length
  | [], [], _, _, _ => rfl
  | [], _ :: _, _, _, h => False.elim h
  | _ :: _, [], _, _, h => False.elim h
  | i :: is, t :: ts, R, env, h => by
    have := putAll_len (wp_ifs (show WP (if i < env.length then Py.putAll is ts (Py.setv env i t) else .stuck) R from h)).2
    simp [this]
/-- the tuple store, by the values that came -/
theorem par_done (F : Facts C P w K mg base g lv c) {A : Bn} {H0 H : Hp} {o bk is : List Nat} {es : Py.E} {σ : L2.St} {env : Py.Env} {D : Ends} (hA : Here A c H0) (S : SI K c A H0 o σ H env) (hn : outS (.par is es) bk o ≠ .bad)
    (hw : WP (Py.exec C (.par is es) env) (post K c A H0 (outS (.par is es) bk o) bk D)) : tP C K c es σ H fun vs H' => vs.length = is.length ∧ D.nx (setAll is vs σ) H' := by
  have S1 : SI K c A H0 (dropE false o es) σ H env := S.weak hA dropE_out
  have S2 : SI K c A H0 ((dropE false o es).filter fun i => decide (i < env.length)) σ H env := S1.weak hA fun i h => by
    simp only [List.contains_iff_mem, List.mem_filter] at h ⊢
    exact h.1
  have hw : WP ((Py.den C es env).bind Py.argsOf) fun ts => WP (Py.putAll is ts env) fun env' => post K c A H0 (outS (.par is es) bk o) bk D (.nx env') := by
    have : WP ((Py.den C es env).bind fun y => (Py.argsOf y).bind fun ts => (Py.putAll is ts env).bind fun env => .ret (.nx env)) (post K c A H0 (outS (.par is es) bk o) bk D) := hw
    refine wp_and.mpr ((wp_and.mp this).mono fun y hy => (wp_and.mp hy).mono fun ts ht => (wp_and.mp ht).mono fun e he => he)
  refine ⟨A, H0, _, env, [], [], hA, S.ev.len, rfl, by simpa using S2, fun i hi he => ?_, fun i hi => ?_, hw.mono fun ts ht vs H' hl S3 => ?_⟩
  · rw [Bool.eq_false_iff]
    intro z
    simp only [List.contains_iff_mem, List.mem_filter] at z
    have := dropE_esc (o := o) he
    rw [Bool.eq_false_iff] at this
    exact this (by simpa using z.1)
  · simp only [List.contains_iff_mem, List.mem_filter, decide_eq_true_eq] at hi
    simpa using hi.2
  · have hp : ∃ o', parO is es (dropE false o es) = .ok o' := by
      have e : outS (.par is es) bk o = parO is es (dropE false o es) := rfl
      rw [e] at hn
      cases q : parO is es (dropE false o es) with
      | bad => exact absurd q hn
      | dead => exact absurd q (parO_nd is es _)
      | ok o' => exact ⟨o', rfl⟩
    obtain ⟨o', hp⟩ := hp
    refine ⟨by rw [hl, putAll_len ht], ?_⟩
    obtain ⟨env', hR, S4⟩ := par_takes hA is es ts vs σ env [] [] _ (dropE false o es) o' _ rfl S.ev.len hl (by simpa using S3) (fun x hx ho => pendO_old es _ _ x (by
        simp only [List.contains_iff_mem, List.mem_filter, decide_eq_true_eq] at ho ⊢
        exact ⟨ho, hx⟩)) (fun k hk => pendO_new es _ _ k hk) hp ht
    exact hR o' hp _ _ S4
/-- the ends behind one more tuple -/
def moreD (D : Ends) : Ends := { D with nx := fun σ' H' => ∀ p vs, H' p = none → D.nx σ' (upd H' p (.tup vs)) }
theorem post_more {A : Bn} {H0 : Hp} {r : OR} {bk : List Nat} {D : Ends} {x : Py.R} (h : post K c A H0 r bk D x) : post K c A H0 r bk (moreD D) x := by
  cases x with
  | nx e => exact fun o' q σ' H' S p vs hp => h o' q σ' _ (S.move (Ext.new hp) ((freeHere S).new hp))
  | rt t => exact h
  | bk e => exact h
theorem par_more (F : Facts C P w K mg base g lv c) {A : Bn} {H0 H : Hp} {o bk is : List Nat} {es : Py.E} {σ : L2.St} {env : Py.Env} {D : Ends} (hA : Here A c H0) (S : SI K c A H0 o σ H env) (hn : outS (.par is es) bk o ≠ .bad)
    (hw : WP (Py.exec C (.par is es) env) (post K c A H0 (outS (.par is es) bk o) bk D)) : tP C K c es σ H fun vs H' => vs.length = is.length ∧ ∀ p ws, H' p = none → D.nx (setAll is vs σ) (upd H' p (.tup ws)) :=
  par_done (D := moreD D) F hA S hn (hw.mono fun x hx => post_more hx)
theorem ss_par (F : Facts C P w K mg base g lv c) (is : List Nat) (es : Py.E) : SndS C P w K mg base g lv c (.par is es) := by
  refine .only (fun X sc st bk o G h hn => ?_) fun _ _ => rfl
  unfold chkS at h
  split at h
  · rename_i y py z pz kt pt a b k2 pt2 spos
    split at h
    · rename_i i j
      obtain ⟨h0, h4, h5⟩ := andB3 h
      obtain ⟨h1, h2, h3⟩ := andB3 h0
      have e3 := notB h3
      have hij : i ≠ j := fun e => by rw [e] at e3; simp at e3
      rcases Bool.or_eq_true_iff.mp h5 with h5 | h5
      rotate_left
      · obtain ⟨n1, n2, n3⟩ := andB3 h5
        obtain ⟨l1, l2⟩ := G.tgt.loc _ n1
        obtain ⟨l3, l4⟩ := G.tgt.loc _ n2
        refine PS.imp (ps_asg (pe_tup (pa_par F G.g es h4)) (pg_tup G.g.calm (pgs_cons (pg_name G.g.nd' (by rw [G.g.N]; exact of_decide_eq_true h1) l1 l2) (pgs_cons (pg_name G.g.nd' (by rw [G.g.N]; exact of_decide_eq_true h2) l3 l4) pgs_nil))) rfl (parN2_ok G.g.sc (notB n3))) fun D σ H ⟨A, H0, env, hA, S, hw⟩ => ?_
        obtain ⟨A', H0', o', env', ps, qs, q1, q2, q3, q4, q5, q6, q7⟩ := par_more F hA S hn hw
        refine ⟨A', H0', o', env', ps, qs, q1, q2, q3, q4, q5, q6, q7.mono fun ts ht vs H' hl S' => ?_⟩
        obtain ⟨l1, l2⟩ := ht vs H' hl S'
        match vs, l1, l2 with
        | [v, w'], _, l2 => exact ⟨by show 2 ≤ sizeLine; decide, fun p hp => ⟨p, _, rfl, SqT.of upd_same, rfl, v, _, rfl, w', _, rfl, rfl, l2 p _ hp⟩⟩
      obtain ⟨p1, p2, p3⟩ := parB2_ok (pt := pt) (pt2 := pt2) (kt := kt) (k2 := k2) G.g.sc G.kind h5
      refine PS.imp (ps_par G.g.calm G.g.nd' (by rw [G.g.N]; exact of_decide_eq_true h1) (by rw [G.g.N]; exact of_decide_eq_true h2) hij p2 p3 (pa_par F G.g es h4) p1) fun D σ H ⟨A, H0, env, hA, S, hw⟩ => ?_
      obtain ⟨A', H0', o', env', ps, qs, q1, q2, q3, q4, q5, q6, q7⟩ := par_done F hA S hn hw
      refine ⟨A', H0', o', env', ps, qs, q1, q2, q3, q4, q5, q6, q7.mono fun ts ht vs H' hl S' => ?_⟩
      obtain ⟨l1, l2⟩ := ht vs H' hl S'
      match vs, l1, l2 with
      | [v, w'], _, l2 => exact ⟨v, w', rfl, l2⟩
    · cases h
  · rename_i y py z pz u pu kt pt a b d k2 pt2 spos
    split at h
    · rename_i i j k
      obtain ⟨h0, h7, h8⟩ := andB3 h
      obtain ⟨h0, h5, h6⟩ := andB3 h0
      obtain ⟨h1, h2, h3, h4⟩ := andB4 h0
      have e4 := notB h4
      have e5 := notB h5
      have e6 := notB h6
      have hij : i ≠ j := fun e => by rw [e] at e4; simp at e4
      have hik : i ≠ k := fun e => by rw [e] at e5; simp at e5
      have hjk : j ≠ k := fun e => by rw [e] at e6; simp at e6
      rcases Bool.or_eq_true_iff.mp h8 with h8 | h8
      rotate_left
      · obtain ⟨n1, n2, n3, n4⟩ := andB4 h8
        obtain ⟨l1, l2⟩ := G.tgt.loc _ n1
        obtain ⟨l3, l4⟩ := G.tgt.loc _ n2
        obtain ⟨l5, l6⟩ := G.tgt.loc _ n3
        refine PS.imp (ps_asg (pe_tup (pa_par F G.g es h7)) (pg_tup G.g.calm (pgs_cons (pg_name G.g.nd' (by rw [G.g.N]; exact of_decide_eq_true h1) l1 l2) (pgs_cons (pg_name G.g.nd' (by rw [G.g.N]; exact of_decide_eq_true h2) l3 l4) (pgs_cons (pg_name G.g.nd' (by rw [G.g.N]; exact of_decide_eq_true h3) l5 l6) pgs_nil)))) rfl (parN3_ok G.g.sc (notB n4))) fun D σ H ⟨A, H0, env, hA, S, hw⟩ => ?_
        obtain ⟨A', H0', o', env', ps, qs, q1, q2, q3, q4, q5, q6, q7⟩ := par_more F hA S hn hw
        refine ⟨A', H0', o', env', ps, qs, q1, q2, q3, q4, q5, q6, q7.mono fun ts ht vs H' hl S' => ?_⟩
        obtain ⟨l1, l2⟩ := ht vs H' hl S'
        match vs, l1, l2 with
        | [v, w', u'], _, l2 => exact ⟨by show 3 ≤ sizeLine; decide, fun p hp => ⟨p, _, rfl, SqT.of upd_same, rfl, v, _, rfl, w', _, rfl, u', _, rfl, rfl, l2 p _ hp⟩⟩
      obtain ⟨p1, p2, p3, p4⟩ := parB3_ok (pt := pt) (pt2 := pt2) (kt := kt) (k2 := k2) G.g.sc G.kind h8
      refine PS.imp (ps_par3 G.g.calm G.g.nd' (by rw [G.g.N]; exact of_decide_eq_true h1) (by rw [G.g.N]; exact of_decide_eq_true h2) (by rw [G.g.N]; exact of_decide_eq_true h3) hij hik hjk p2 p3 p4 (pa_par F G.g es h7) p1) fun D σ H ⟨A, H0, env, hA, S, hw⟩ => ?_
      obtain ⟨A', H0', o', env', ps, qs, q1, q2, q3, q4, q5, q6, q7⟩ := par_done F hA S hn hw
      refine ⟨A', H0', o', env', ps, qs, q1, q2, q3, q4, q5, q6, q7.mono fun ts ht vs H' hl S' => ?_⟩
      obtain ⟨l1, l2⟩ := ht vs H' hl S'
      match vs, l1, l2 with
      | [v, w', u'], _, l2 => exact ⟨v, w', u', rfl, l2⟩
    · cases h
  · cases h
theorem ss_for (F : Facts C P w K mg base g lv c) (x : Py.Tgt) (it : Py.E) {b : Py.S} (hb : SndS C P w K mg base g lv c b) : SndS C P w K mg base g lv c (.for_ x it b) := by
  refine .only (fun X sc st bk o G h hn => ?_) fun _ _ => rfl
  unfold chkS at h
  split at h
  · obtain ⟨h1, h2, h3⟩ := andB3 h
    have eO : outS (.for_ x it b) bk o = loopO (fun o => outS b o (less o (tgtIn x))) 8 (dropE false o it) := rfl
    cases hl : loopO (fun o => outS b o (less o (tgtIn x))) 8 (dropE false o it) with
    | bad => rw [eO, hl] at hn; exact absurd rfl hn
    | dead => exact absurd hl loopO_nd
    | ok inv =>
      obtain ⟨i1, i2, i3⟩ := loopO_ok hl
      refine PS.imp (ps_for G.pass G.g.calm (pi_both (snd_all F it).ex (snd_all F it).it false G.g h1) ((tgt_all (c := c) G.tgt G.g.K x).1 _ h2) (hb.bl X sc _ inv (less inv (tgtIn x)) G h3 i2) (fun v => fold_ok h1 X.env v)) fun D σ H ⟨A, H0, env, hA, S, hw⟩ => ?_
      have eR : outS (.for_ x it b) bk o = .ok inv := by rw [eO, hl]
      rw [eR] at hw
      have S1 : SI K c A H0 (dropE false o it) σ H env := S.weak hA dropE_out
      have hw : WP ((Py.den C it env).bind Py.itemsS) fun xs => WP (Py.forL (Py.bindT x) (Py.exec C b) xs env) (post K c A H0 (.ok inv) bk D) :=
        wp_and.mpr ((wp_and.mp hw).mono fun t ht => wp_and.mp ht)
      refine ⟨Ban A (dropE false o it) σ env, env, S1.here hA, S1.esc, hw.mono fun ts hts J H1 x1 k1 wk => ?_⟩
      have S2 := S1.move x1 k1
      have RB := S2.rebase hA
      -- what the walk reads stays
      have kept : ∀ {σ' : L2.St} {H' : Hp} {env' : Py.Env} {o' : List Nat}, SI K c A (rest (dropE false o it) σ env H1) o' σ' H' env' → Kept (Ban A (dropE false o it) σ env) c H1 H' := fun S' => by
        refine ⟨fun a vs e n => S'.ext a _ ?_ n, fun a ob e n z => S'.ext a ob ?_ n⟩
        · rw [rest_not (fun q => S2.notTup q e)]; exact e
        · rw [rest_not (fun q => z (.inr q))]; exact e
      refine ⟨fun i m σ' H' => m = ts.length - i ∧ i ≤ ts.length ∧ ∃ env', SI K c A (rest (dropE false o it) σ env H1) inv σ' H' env' ∧ WP (Py.forL (Py.bindT x) (Py.exec C b) (ts.drop i) env') (post K c A H0 (.ok inv) bk D),
        ⟨ts.length, by simp, Nat.zero_le _, env, RB.si.weak RB.here i1, by simpa using hts⟩, ?_⟩
      rintro i m σ' H' ⟨rfl, hi, env', S', hw'⟩
      have kp := kept S'
      have W0 := wk (Ban A (dropE false o it) σ env) (fun a h => .inl h) (fun a h => h)
      by_cases hlt : i < ts.length
      · have hd : ts.drop i = ts[i] :: ts.drop (i + 1) := (List.getElem_cons_drop hlt).symm
        rw [hd] at hw'
        have hw' : WP (Py.bindT x ts[i] env') fun e1 => WP (Py.exec C b e1) fun f => WP (match f with
    | .nx e => Py.forL (Py.bindT x) (Py.exec C b) (ts.drop (i + 1)) e
    | .bk e => .ret (.nx e)
    | .rt t => .ret (.rt t)) (post K c A H0 (.ok inv) bk D) := (wp_and.mp hw').mono fun e1 h1 => wp_and.mp h1
        refine .inr ⟨W0.goes i H' hlt kp, fun σ2 H2 => ∃ env', SI K c A (rest (dropE false o it) σ env H1) inv σ2 H2 env' ∧ WP (Py.forL (Py.bindT x) (Py.exec C b) (ts.drop (i + 1)) env') (post K c A H0 (.ok inv) bk D), fun σ2 H2 q => ⟨_, by omega, rfl, hlt, q⟩, fun xv H2 y => ?_⟩
        -- the ban as it is now
        have S3 : SI K c A (rest (dropE false o it) σ env H1) (less inv (tgtIn x)) σ' H' env' := S'.weak RB.here fun i h => (less_out i h).1
        have W1 := wk (fun a => Ban A (less inv (tgtIn x)) σ' env' a ∨ Ban A (dropE false o it) σ env a) (fun a h => by
          rcases h with (h | h) | h
          · exact .inl (.inl h)
          · have q := S3.new a h
            by_cases z : Own (dropE false o it) σ env a
            · exact .inl (.inr z)
            · rw [rest_not z] at q; exact .inr q
          · exact .inl h) (fun a h => .inr h)
        obtain ⟨x2, k2, t, ht, rt⟩ := W1.yields i H' xv H2 hlt kp S'.cup y
        have et : t = ts[i] := by simpa [hlt] using ht.symm
        subst et
        have S4 := S3.move x2 k2
        refine ⟨Ban A (less inv (tgtIn x)) σ' env', _, _, env', S4.ev, rt.mono (fun a h => .inl h), (bindT_out x hw').mono fun e1 ⟨he, h1⟩ σ2 _ hs ev2 => ?_⟩
        have S5 := S4.bind less_tgt hs he ev2
        refine ⟨A, _, e1, RB.here, S5, h1.mono fun f hf => ?_⟩
        cases f with
        | nx e => exact fun o' q σ3 H3 S6 => ⟨e, S6.weak RB.here (i3 o' q), hf⟩
        | rt t => exact fun v H3 x3 k3 r3 => (show ∀ v H', Ext c H0 H' → CupOk H' c → Rep K H' A c t v → D.rt v H' from hf) v H3 (RB.ext H3 x3) k3 r3
        | bk e => exact fun σ3 H3 S6 => (show ∀ o', OR.ok inv = .ok o' → ∀ σ' H', SI K c A H0 o' σ' H' e → D.nx σ' H' from hf) inv rfl σ3 H3 (RB.back _ _ _ _ S6)
      · have e : i = ts.length := by omega
        subst e
        refine .inl ⟨W0.stops H' kp, ?_⟩
        have : WP (Py.M.ret (.nx env')) (post K c A H0 (.ok inv) bk D) := by simpa [Py.forL] using hw'
        exact (show ∀ o', OR.ok inv = .ok o' → ∀ σ' H', SI K c A H0 o' σ' H' env' → D.nx σ' H' from this) inv rfl σ' H' (RB.back _ _ _ _ S')
  · cases h
end
end Snd

set_option Elab.async false
set_option linter.all false
set_option maxRecDepth 100000
set_option maxHeartbeats 2000000
namespace Snd
open PySem PySem.Spec L2
open PyProof.Rows hiding St
section
variable {K : PySem.W.Frag} {c : Addr} {A : Bn} {H0 H H' : Hp} {o o' : List Nat} {σ : L2.St} {env : Py.Env}
/-- what an owning slot holds -/
theorem SI.own (S : SI K c A H0 o σ H env) {i : Nat} {t : Tr} (hi : o.contains i = true) (e : env[i]? = some (some t)) (hm : isMut t = true) : ∃ a, σ[i]? = some (some (.ref a)) ∧ Own o σ env a ∧ RepW K H (Ban A o σ env) c t (.ref a) ∧ a ≠ c ∧ H a ≠ none := by
  obtain ⟨v, g1, g2, _⟩ := S.ev.get i t e
  have : ∃ a, v = .ref a := by
    cases t with
    | lst xs => obtain ⟨b, vs, e, n, s, l⟩ := wLst g2; exact ⟨b, e⟩
    | dct kvs => obtain ⟨b, vs, e, n, l, s⟩ := g2; exact ⟨b, e⟩
    | _ => cases hm
  obtain ⟨a, rfl⟩ := this
  have ow : Own o σ env a := ⟨i, t, hi, e, hm, g1⟩
  obtain ⟨h1, h2⟩ := S.there ow
  exact ⟨a, g1, ow, g2, h2, h1⟩
theorem SI.kept1 (S : SI K c A H0 o σ H env) {a : Addr} (h : Own o σ env a) (u : HO) : Kept (fun b => b = a) c H (upd H a u) := upd_kept (Z := fun b => b = a) rfl (fun vs => S.notTup h) (S.there h).1
theorem ban_at {a : Addr} (h : Own o σ env a) : ∀ b, b = a → Ban A o σ env b := fun b e => by rw [e]; exact .inr h
/-- the thing that the slot i owns is written -/
theorem SI.write (S : SI K c A H0 o σ H env) {i : Nat} {t t' : Tr} {a : Addr} {u : HO} (hi : o.contains i = true) (e : env[i]? = some (some t)) (hm : isMut t = true) (es : σ[i]? = some (some (.ref a))) (hu : ∀ ob w, u ≠ .frz ob w) (hm' : isMut t' = true)
    (r : RepW K (upd H a u) (Ban A o σ env) c t' (.ref a)) : SI K c A H0 o σ (upd H a u) (Py.setv env i t') := by
  have ow : Own o σ env a := ⟨i, t, hi, e, hm, es⟩
  have k := S.kept1 ow u
  have hz := ban_at (A := A) ow
  have na := (S.there ow).2
  have hlt : i < env.length := (List.getElem?_eq_some_iff.mp e).1
  have back : ∀ {j : Nat} {w : Tr}, (Py.setv env i t')[j]? = some (some w) → (j = i ∧ w = t') ∨ (j ≠ i ∧ env[j]? = some (some w)) := by
    intro j w h
    rw [setv_get] at h
    by_cases q : j = i
    · rw [if_pos ⟨q, hlt⟩] at h; cases h; exact .inl ⟨q, rfl⟩
    · rw [if_neg (fun z => q z.1)] at h; exact .inr ⟨q, h⟩
  have oo : ∀ b, Own o σ (Py.setv env i t') b → Own o σ env b := fun b ⟨j, w, h1, h2, h3, h4⟩ => by
    rcases back h2 with ⟨rfl, rfl⟩ | ⟨_, h2⟩
    · exact ⟨j, t, h1, e, hm, h4⟩
    · exact ⟨j, w, h1, h2, h3, h4⟩
  have mB : ∀ b, Ban A o σ (Py.setv env i t') b → Ban A o σ env b := fun b h => h.elim .inl fun q => .inr (oo b q)
  refine ⟨upd_cup S.cup na, fun b ob q n => ?_, ⟨fun j w q => ?_, by rw [setv_length]; exact S.ev.len⟩, fun b h => S.new b (oo b h), fun j l w x b h1 h2 h3 h4 h5 h6 h7 h8 => ?_, fun b h ob w q => ?_⟩
  · rw [upd_ne (fun z => by rw [z, S.new a ow] at q; cases q)]
    exact S.ext b ob q n
  · rcases back q with ⟨rfl, rfl⟩ | ⟨nj, q⟩
    · exact ⟨_, es, r.mono mB, fun z => by rw [hi] at z; cases z⟩
    · obtain ⟨v, g1, g2, g3⟩ := S.ev.get j w q
      refine ⟨v, g1, ?_, fun z => ((g3 z).kept k hz).mono mB⟩
      by_cases hj : o.contains j = true
      · by_cases hw : isMut w = true
        · obtain ⟨b, h1, h2, h3, h4, h5⟩ := S.own hj q hw
          rw [g1] at h1
          cases h1
          have nb : b ≠ a := fun z => nj (S.inj j i w t a hj hi q e hw hm (by rw [← z]; exact g1) es)
          cases w with
          | lst xs =>
            obtain ⟨b', vs, e', n, s, l⟩ := wLst g2
            cases e'
            exact RepW.mono mB ⟨b, vs, rfl, n, k.oth b _ s n nb, l.kept k hz⟩
          | dct kvs =>
            obtain ⟨b', vs, e', n, l, s⟩ := g2
            cases e'
            have rd : ∀ {u' : HO} {ne : Prop}, RdD H b u' ne → RdD (upd H a u) b u' ne := fun r => by
              rcases r with r | ⟨hh, ob, r⟩
              · exact .inl (k.oth b _ r n nb)
              · exact .inr ⟨hh, ob, k.oth b _ r n nb⟩
            refine RepW.mono mB (B := Ban A o σ env) ⟨b, vs, rfl, n, l.kept k hz, ?_⟩
            rcases s with ⟨ks, l1, l2, s⟩ | ⟨ks, l1, l2, s⟩
            · exact .inl ⟨ks, l1, l2, rd s⟩
            · exact .inr ⟨ks, l1, l2, rd s⟩
          | _ => cases hw
        · have : Rep K H (Ban A o σ env) c w v := g2.strong (fun _ z => z) fun z => absurd z hw
          exact ((this.kept k hz).weak).mono mB
      · exact (((g3 (by simpa using hj)).kept k hz).weak).mono mB
  · have up : ∀ {j : Nat} {w : Tr}, (Py.setv env i t')[j]? = some (some w) → isMut w = true → ∃ w', env[j]? = some (some w') ∧ isMut w' = true := fun h1 h2 => by
      rcases back h1 with ⟨rfl, rfl⟩ | ⟨_, h⟩
      · exact ⟨t, e, hm⟩
      · exact ⟨_, h, h2⟩
    obtain ⟨w', x1, x2⟩ := up h3 h5
    obtain ⟨x', y1, y2⟩ := up h4 h6
    exact S.inj j l w' x' b h1 h2 x1 y1 x2 y2 h7 h8
  · by_cases z : b = a
    · rw [z, upd_same] at q
      exact hu ob w (Option.some.inj q)
    · rw [upd_ne z] at q
      exact S.nofz b (oo b h) ob w q
end
def OwnT (K : PySem.W.Frag) (H : Hp) (B : Bn) (c : Addr) (a : Addr) : Tr → Prop
  | .lst xs => ∃ vs, H a = some (.lst vs) ∧ RepL K H B c xs vs
  | .dct kvs => OwnD K H B c kvs a
  | _ => False
def NewT (K : PySem.W.Frag) (H : Hp) (B : Bn) (c : Addr) (u : HO) : Tr → Prop
  | .lst xs => ∃ vs, u = .lst vs ∧ RepL K H B c xs vs
  | .dct kvs => NewD K H B c kvs u
  | _ => False
theorem NewT.rep {K : PySem.W.Frag} {H : Hp} {B : Bn} {c a : Addr} {u : HO} {t : Tr} (n : NewT K H B c u t) (k : Kept (fun b => b = a) c H (upd H a u)) (hz : ∀ b, b = a → B b) (na : a ≠ c) : isMut t = true ∧ (∀ ob w, u ≠ .frz ob w) ∧ RepW K (upd H a u) B c t (.ref a) := by
  cases t with
  | lst xs =>
    obtain ⟨vs, rfl, l⟩ := n
    exact ⟨rfl, fun _ _ z => (nomatch z), a, vs, rfl, na, upd_same, l.kept k hz⟩
  | dct kvs =>
    obtain ⟨vs, rv, h⟩ := n
    refine ⟨rfl, fun ob w z => ?_, a, vs, rfl, na, rv.kept k hz, ?_⟩
    · rcases h with ⟨ks, _, _, rfl⟩ | ⟨ks, _, _, rfl⟩ <;> cases z
    · rcases h with ⟨ks, l1, l2, rfl⟩ | ⟨ks, l1, l2, rfl⟩
      · exact .inl ⟨ks, l1, l2, .inl upd_same⟩
      · exact .inr ⟨ks, l1, l2, .inl upd_same⟩
  | _ => exact n.elim
theorem SI.ownT {K : PySem.W.Frag} {c : Addr} {A : Bn} {H0 H : Hp} {o : List Nat} {σ : L2.St} {env : Py.Env} (S : SI K c A H0 o σ H env) {i : Nat} {t : Tr} (hi : o.contains i = true) (e : env[i]? = some (some t)) (hm : isMut t = true) :
    ∃ a, σ[i]? = some (some (.ref a)) ∧ Own o σ env a ∧ a ≠ c ∧ OwnT K H (Ban A o σ env) c a t := by
  obtain ⟨a, h1, h2, h3, h4, h5⟩ := S.own hi e hm
  refine ⟨a, h1, h2, h4, ?_⟩
  cases t with
  | lst xs =>
    obtain ⟨b, vs, e', n, s, l⟩ := wLst h3
    cases e'
    exact ⟨vs, s, l⟩
  | dct kvs =>
    obtain ⟨b, vs, e', n, l, s⟩ := h3
    cases e'
    refine ⟨vs, l, ?_⟩
    rcases s with ⟨ks, l1, l2, s | ⟨_, ob, s⟩⟩ | ⟨ks, l1, l2, s | ⟨_, ob, s⟩⟩
    · exact .inl ⟨ks, l1, l2, s⟩
    · exact absurd s (S.nofz _ h2 _ _)
    · exact .inr ⟨ks, l1, l2, s⟩
    · exact absurd s (S.nofz _ h2 _ _)
  | _ => cases hm
def sT (K : PySem.W.Frag) (c : Addr) : TSet := fun ov i v H Q => ∃ (B : Bn) (t k x : Tr) (a : Addr), ov = .ref a ∧ OwnT K H B c a t ∧ RepW K H B c k i ∧ Rep K H B c x v ∧ WP (Py.setI t k x) (fun t' => ∀ u, NewT K H B c u t' → Q (upd H a u))
theorem pset_T {X : L2.Cx} {c : Addr} (hu : X.A.units + 1 < cLine) : PSet X (sT X.K c) := by
  intro pins s σ H ov i v ou iu u Q I ro ri rv ⟨B, t, k, x, a, eo, ot, rk, rx, hw⟩
  subst eo
  cases t with
  | lst xs =>
    obtain ⟨vs, ha, l⟩ := ot
    cases k with
    | int j =>
      have e := wInt rk; subst e
      simp only [Py.setI] at hw
      cases q : Py.ixI xs.length j with
      | none => rw [q] at hw; exact hw.elim
      | some n =>
        rw [q] at hw
        refine set_list pins s σ H _ _ v ou iu u Q I ro ri rv ⟨a, vs, j, n, rfl, rfl, ha, by rw [← l.length]; exact q, ?_⟩
        exact (show ∀ u, NewT X.K H B c u (.lst (xs.set n x)) → Q (upd H a u) from hw) _ ⟨_, rfl, l.set n rx⟩
    | _ => exact False.elim hw
  | dct kvs =>
    have hw : WP (if Py.fits kvs k && decide (kvs.length < Py.lim) then Py.M.ret (Py.T.dct (Py.dput kvs k x)) else .stuck) (fun t' => ∀ u, NewT X.K H B c u t' → Q (upd H a u)) := by
      cases k <;> exact hw
    rcases wp_ite hw with ⟨hc, hw⟩ | ⟨_, hw⟩
    · obtain ⟨fit, hl⟩ := andB hc
      have hl := of_decide_eq_true hl
      obtain ⟨H', u', I', dp, nd⟩ := dict_put I ot rk rx fit (by rw [← lim_line]; exact hl)
      obtain rfl : ou = Value.ref a := ro
      exact d_setItem hu I' dp ri rv fun s4 I4 => ⟨_, I4, (show ∀ u, NewT X.K H B c u (.dct (Py.dput kvs k x)) → Q (upd H a u) from hw) u' nd⟩
    · exact hw.elim
  | _ => exact ot.elim
section
variable {C : Py.Cx} {P : Program} {w : World} {K : PySem.W.Frag} {mg : Str → Option Value} {base : Heap} {g : Gx} {lv : Nat} {c : Addr}
theorem need_ok {o : List Nat} {i : Nat} (h : need o i ≠ .bad) : o.contains i = true ∧ need o i = .ok o := by
  unfold need at h ⊢
  by_cases q : o.contains i = true
  · rw [if_pos q]; exact ⟨q, rfl⟩
  · rw [if_neg q] at h; exact absurd rfl h
theorem setI_mut {t k x : Tr} {R : Tr → Prop} (h : WP (Py.setI t k x) R) : isMut t = true := by
  cases t with
  | lst xs => rfl
  | dct kvs => rfl
  | _ => cases k <;> exact False.elim h
theorem setI_key {t k x : Tr} {R : Tr → Prop} (h : WP (Py.setI t k x) R) : Py.keyOk k = true := by
  cases t with
  | lst xs => cases k with
    | int j => rfl
    | _ => exact False.elim h
  | dct kvs =>
    have h' : WP (if Py.fits kvs k && decide (kvs.length < Py.lim) then Py.M.ret (Py.T.dct (Py.dput kvs k x)) else .stuck) R := by
      cases k <;> exact h
    rcases wp_ite h' with ⟨hc, _⟩ | ⟨_, q⟩
    · exact (fits_inv (andB hc).1).1
    · exact q.elim
  | _ => cases k <;> exact False.elim h
theorem sub_assign {o kx : Expr} {pos : Pos} {env : Env} (h : ∀ a b d p, kx ≠ .Slice a b d p) (v : Value) : assign (.Subscript o kx pos) env v = (do
      let ov ← holding [v] (eval o env)
      let iv ← holding [v, ov] (eval kx env)
      standAt pos
      holding [v, ov, iv] (setItem ov iv v)
      release [v, ov, iv] []) := by
  cases kx <;> first
    | rfl
    | exact absurd rfl (h _ _ _ _)
theorem notSlice {sc : Scope} {k : Py.E} {kx : Expr} (h : chk g sc k kx = true) : ∀ a b d p, kx ≠ .Slice a b d p := fun a b d p e => by
  rw [e, chk_noSlice] at h; cases h
def tSl (i : Nat) : TE := fun σ H Q => ∃ v, σ[i]? = some (some v) ∧ Q v H
theorem pe_slot {X : L2.Cx} {sc : Scope} (G : Good P w K mg base g lv X sc) {i : Nat} {y : Str} {p : Pos} (h : chk g sc (.var i) (.Name y p) = true) : PE X (.Name y p) (tSl i) := by
  obtain ⟨h1, h2, h3⟩ := andB3 (show (decide (g.N[i]? = some y) && vis sc y && okName y) = true from h)
  have hN : X.N[i]? = some y := by rw [G.N]; exact of_decide_eq_true h1
  exact pe_var hN (by rw [G.sc]; exact vis_ok h2) (okName_dbg h3) (okName_cd h3)
theorem getv_eq : ∀ {env : Py.Env} {i : Nat} {t : Tr}, env[i]? = some (some t) → Py.getv env i = .ret t
  | some u :: _, 0, t, h => by cases h; rfl
  | none :: _, 0, t, h => by cases h
  | some _ :: r, i + 1, t, h => getv_eq (env := r) (by simpa using h)
  | none :: r, i + 1, t, h => getv_eq (env := r) (by simpa using h)
  | [], i, t, h => by simp at h
theorem ss_seti (F : Facts C P w K mg base g lv c) (i : Nat) (k e : Py.E) : SndS C P w K mg base g lv c (.seti i k e) := by
  refine .only (fun X sc st bk o G h hn => ?_) fun _ _ => rfl
  unfold chkS at h
  split at h
  · rename_i y py kx tpos x spos
    obtain ⟨h1, h2, h3⟩ := andB3 h
    obtain ⟨hi, hO⟩ := need_ok (show need (dropE false o e) i ≠ .bad from hn)
    have hu : X.A.units + 1 < cLine := by have := G.g.roomy; unfold Roomy at this; omega
    refine PS.imp (ps_asg ((snd_all F e).ex.pe X sc x .s G.g h3 (fun z => nomatch z)) (pg_sub (pe_slot G.g (y := y) (p := py) h1) ((snd_all F k).ex.pe X sc kx .w G.g h2 okW) (pset_T (c := c) hu) (sub_assign (notSlice h2))) (show swapsWith x (some (.Subscript (.Name y py) kx tpos)) spos.line X.env = pure false from noSwap_ok rfl _ _) (by cases x <;> rfl)) fun D σ H ⟨A, H0, env, hA, S, hw⟩ => ?_
    have eR : outS (.seti i k e) bk o = .ok (dropE false o e) := hO
    rw [eR] at hw
    have S1 : SI K c A H0 (dropE false o e) σ H env := S.weak hA dropE_out
    refine ⟨Ban A (dropE false o e) σ env, env, S1.here hA, S1.esc, (wp_and.mp hw).mono fun v hv v1 H1 x1 k1 r1 => ?_⟩
    have S2 := S1.move x1 k1
    obtain ⟨tc, etc, hc⟩ := getv_some (wp_and.mp hv)
    have hc : WP (Py.den C k env) fun tk => WP (Py.setI tc tk v) fun t' => post K c A H0 (.ok (dropE false o e)) bk D (.nx (Py.setv env i t')) := (wp_and.mp hc).mono fun tk hk => wp_and.mp hk
    -- it is a list or a dict, or nothing is known
    by_cases hm : isMut tc = true
    · obtain ⟨a, es, ow, na, _⟩ := S2.ownT hi etc hm
      refine ⟨_, es, subW (S2.here hA) S2.ev hc fun tk v3 H3 hk x3 k3 r3 => ?_⟩
      have S4 := S2.move x3 k3
      obtain ⟨a', es', ow', na', ot⟩ := S4.ownT hi etc hm
      rw [es] at es'
      cases es'
      have kk : Py.keyOk tk = true := setI_key hk
      rw [G.g.K]
      refine ⟨Ban A (dropE false o e) σ env, tc, tk, v, a, rfl, ot, r3.key kk, (show Rep K H1 _ c v v1 from r1).ext x3, WP.mono hk fun t' ht' u nu => ?_⟩
      obtain ⟨m1, m2, m3⟩ := nu.rep (S4.kept1 ow u) (ban_at ow) na
      exact (show ∀ o', OR.ok (dropE false o e) = .ok o' → ∀ σ' H', SI K c A H0 o' σ' H' (Py.setv env i t') → D.nx σ' H' from ht') _ rfl σ _ (S4.write hi etc hm es m2 m1 m3)
    · exfalso
      exact wp_false (hc.mono fun tk hk => hm (setI_mut hk))
  · cases h
theorem appM_wp {t x : Tr} {R : Tr → Prop} (h : WP (Py.appM t x) R) : ∃ xs, t = .lst xs ∧ xs.length < sizeLine ∧ R (.lst (xs ++ [x])) := by
  cases t with
  | lst xs =>
    obtain ⟨h1, h2⟩ := wp_ifs (show WP (if xs.length < Py.lim then .ret (.lst (xs ++ [x])) else .stuck) R from h)
    exact ⟨xs, rfl, by rw [← lim_line]; exact h1, h2⟩
  | _ => exact False.elim h
theorem ss_app (F : Facts C P w K mg base g lv c) (i : Nat) (e : Py.E) : SndS C P w K mg base g lv c (.app i e) := by
  refine .only (fun X sc st bk o G h hn => ?_) fun _ _ => rfl
  unfold chkS at h
  split at h
  · rename_i y py m' ap x cp spos
    obtain ⟨h1, h2, h3, h4⟩ := andB4 h
    have em := of_decide_eq_true h1
    subst em
    obtain ⟨hi, hO⟩ := need_ok (show need (dropE false o e) i ≠ .bad from hn)
    refine PS.imp (ps_expr (pe_bm PySem.F.plainAttrs_list PySem.F.slot_list_append PySem.F.type_list_append mt_append (pe_slot G.g (y := y) (p := py) h3) (pa_cons ((snd_all F e).ex.pe X sc x .s G.g h4 (fun z => nomatch z)) pa_nil (star_of h4 [] X.env)) rfl (by rw [star_of h4 [] X.env]; rfl) (by simpa using h2) (star_of h4 [] X.env) rfl) rfl) fun D σ H ⟨A, H0, env, hA, S, hw⟩ => ?_
    have eR : outS (.app i e) bk o = .ok (dropE false o e) := hO
    rw [eR] at hw
    have S1 : SI K c A H0 (dropE false o e) σ H env := S.weak hA dropE_out
    obtain ⟨tc, etc, hc⟩ := getv_some (wp_and.mp hw)
    have hc : WP (Py.den C e env) fun v => WP (Py.appM tc v) fun t' => post K c A H0 (.ok (dropE false o e)) bk D (.nx (Py.setv env i t')) := (wp_and.mp hc).mono fun tk hk => wp_and.mp hk
    have hl : ∃ xs, tc = .lst xs := by
      cases tc with
      | lst xs => exact ⟨xs, rfl⟩
      | _ =>
        exfalso
        refine wp_false (hc.mono fun v hv => ?_)
        obtain ⟨xs, e, _⟩ := appM_wp hv
        cases e
    obtain ⟨xs, rfl⟩ := hl
    obtain ⟨a, es, ow, na, ws, hws, lws⟩ := S1.ownT hi etc rfl
    refine ⟨_, es, .inl ⟨rfl, ws, SqL.of hws⟩, Ban A (dropE false o e) σ env, env, S1.here hA, S1.esc, hc.mono fun v hv v1 H1 x1 k1 r1 => ?_⟩
    have S2 := S1.move x1 k1
    obtain ⟨a', es', ow', na', ws', hws', lws'⟩ := S2.ownT hi etc rfl
    rw [es] at es'
    cases es'
    obtain ⟨xs', e', hz, hq⟩ := appM_wp hv
    cases e'
    refine ⟨a, ws', v1, rfl, rfl, hws', by rw [← lws'.length]; exact hz, ?_⟩
    have nu : NewT K H1 (Ban A (dropE false o e) σ env) c (.lst (ws' ++ [v1])) (.lst (xs ++ [v])) := ⟨_, rfl, lws'.append (.cons r1 .nil)⟩
    obtain ⟨m1, m2, m3⟩ := nu.rep (S2.kept1 ow' _) (ban_at ow') na
    exact (show ∀ o', OR.ok (dropE false o e) = .ok o' → ∀ σ' H', SI K c A H0 o' σ' H' (Py.setv env i (.lst (xs ++ [v]))) → D.nx σ' H' from hq) _ rfl σ _ (S2.write hi etc rfl es m2 m1 m3)
  · cases h
theorem ss_aug (F : Facts C P w K mg base g lv c) (i : Nat) (e : Py.E) : SndS C P w K mg base g lv c (.aug i e) := by
  refine .only (fun X sc st bk o G h hn => ?_) fun _ _ => rfl
  unfold chkS at h
  split at h
  · rename_i y py x spos
    obtain ⟨h1, h2, h3⟩ := andB3 h
    obtain ⟨l1, l2⟩ := G.tgt.loc y h2
    refine PS.imp (ps_aug G.g.nd' (by rw [G.g.N]; exact of_decide_eq_true h1) l1 ((snd_all F e).ex.pe X sc x .w G.g h3 okW) ip_add l2) fun D σ H ⟨A, H0, env, hA, S, hw⟩ => ?_
    obtain ⟨tc, etc, hc⟩ := getv_some (wp_and.mp hw)
    have hc := wp_and.mp hc
    obtain ⟨v0, g1, g2, _⟩ := S.ev.get i tc etc
    refine ⟨v0, g1, subW (S.here hA) S.ev hc fun v v1 H1 hv x1 k1 r1 => ?_⟩
    have hv := wp_and.mp hv
    cases tc with
    | int a => cases v with
      | int b =>
        have e1 := wInt g2; subst e1
        have e2 := wInt r1; subst e2
        refine ⟨a, b, rfl, rfl, ?_⟩
        have hq : ∀ o', OR.ok o = .ok o' → ∀ σ' H', SI K c A H0 o' σ' H' (Py.setv env i (.int (a + b))) → D.nx σ' H' := hv
        have S3 := S.slot (m := .f) (fr := true) hA rfl x1 k1 i (t := .int (a + b)) (v := .int (a + b)) (show Rep K H1 _ c _ _ from repI)
        refine hq o rfl _ _ (S3.weak hA fun j hj => ?_)
        rw [slot2_has, hj]
        by_cases q : j = i <;> simp [q]
      | _ => exact False.elim hv
    | _ => exact False.elim hv
  · cases h
theorem set_same {σ : L2.St} {i : Nat} {x : Option V} (h : σ[i]? = some x) : σ.set i x = σ := by
  refine List.ext_getElem? fun j => ?_
  by_cases e : i = j
  · subst e
    rw [List.getElem?_set_self (List.getElem?_eq_some_iff.mp h).1, h]
  · rw [List.getElem?_set_ne e]
theorem ss_ext (F : Facts C P w K mg base g lv c) (i : Nat) (e : Py.E) : SndS C P w K mg base g lv c (.ext i e) := by
  refine .only (fun X sc st bk o G h hn => ?_) fun _ _ => rfl
  unfold chkS at h
  split at h
  · rename_i y py x spos
    obtain ⟨h1, h2, h3⟩ := andB3 h
    obtain ⟨l1, l2⟩ := G.tgt.loc y h2
    obtain ⟨hi, hO⟩ := need_ok (show need (dropE true o e) i ≠ .bad from hn)
    refine PS.imp (ps_aug G.g.nd' (by rw [G.g.N]; exact of_decide_eq_true h1) l1 ((snd_all F e).ex.pe X sc x .w G.g h3 okW) (show PIp X .Add rExt2 from iop_ext) l2) fun D σ H ⟨A, H0, env, hA, S, hw⟩ => ?_
    have eR : outS (.ext i e) bk o = .ok (dropE true o e) := hO
    rw [eR] at hw
    have S1 : SI K c A H0 (dropE true o e) σ H env := S.weak hA dropE_out
    obtain ⟨tc, etc, hc⟩ := getv_some (wp_and.mp hw)
    have hc : WP (Py.den C e env) fun v => WP (Py.extM tc v) fun t' => post K c A H0 (.ok (dropE true o e)) bk D (.nx (Py.setv env i t')) := (wp_and.mp hc).mono fun tk hk => wp_and.mp hk
    have hl : ∃ xs, tc = .lst xs := by
      cases tc with
      | lst xs => exact ⟨xs, rfl⟩
      | _ => exact (wp_false (hc.mono fun v hv => False.elim hv)).elim
    obtain ⟨xs, rfl⟩ := hl
    obtain ⟨a, es, ow, na, ws, hws, lws⟩ := S1.ownT hi etc rfl
    refine ⟨_, es, Ban A (dropE true o e) σ env, env, S1.here hA, S1.esc, hc.mono fun v hv v1 H1 x1 k1 r1 => ?_⟩
    have S2 := S1.move x1 k1
    obtain ⟨a', es', ow', na', ws', hws', lws'⟩ := S2.ownT hi etc rfl
    rw [es] at es'
    cases es'
    cases v with
    | lst ys =>
      obtain ⟨hz, hq⟩ := mkLst_wp (show WP (Py.mkLst (xs ++ ys)) _ from hv)
      obtain ⟨b, us, rfl, nb, hus, lus⟩ := wLst (show RepW K H1 _ c (.lst ys) v1 from r1)
      refine ⟨a, b, ws', us, rfl, rfl, hws', hus, by rw [← lws'.length, ← lus.length, ← List.length_append]; exact hz, ?_⟩
      have nu : NewT K H1 (Ban A (dropE true o e) σ env) c (.lst (ws' ++ us)) (.lst (xs ++ ys)) := ⟨_, rfl, lws'.append lus⟩
      obtain ⟨m1, m2, m3⟩ := nu.rep (S2.kept1 ow' _) (ban_at ow') na
      show D.nx (σ.set i (some (V.ref a))) _
      rw [set_same es]
      exact (show ∀ o', OR.ok (dropE true o e) = .ok o' → ∀ σ' H', SI K c A H0 o' σ' H' (Py.setv env i (.lst (xs ++ ys))) → D.nx σ' H' from hq) _ rfl σ _ (S2.write hi etc rfl es m2 m1 m3)
    | _ => exact False.elim hv
  · cases h
theorem popM_wp {t : Tr} {R : Tr × Tr → Prop} (h : WP (Py.popM t) R) : ∃ xs x, t = .lst xs ∧ xs[xs.length - 1]? = some x ∧ R (x, .lst xs.dropLast) := by
  cases t with
  | lst xs =>
    have h : WP (match xs[xs.length - 1]? with | some x => Py.M.ret (x, Py.T.lst xs.dropLast) | none => .stuck) R := h
    cases q : xs[xs.length - 1]? with
    | none => rw [q] at h; exact False.elim h
    | some x => rw [q] at h; exact ⟨xs, x, rfl, q, h⟩
  | _ => exact False.elim h
theorem ban_less {A : Bn} {o : List Nat} {σ : L2.St} {env : Py.Env} {i : Nat} {t t' : Tr} {p : Nat → Bool} (hi : o.contains i = true) (e : env[i]? = some (some t)) (hm : isMut t = true) : ∀ b, Ban A (less o p) σ (Py.setv env i t') b → Ban A o σ env b := fun b h => h.elim .inl fun ⟨j, w, h1, h2, h3, h4⟩ => .inr (by
  by_cases q : j = i
  · subst q; exact ⟨j, t, hi, e, hm, h4⟩
  · rw [setv_get, if_neg (fun z => q z.1)] at h2
    exact ⟨j, w, (less_out j h1).1, h2, h3, h4⟩)
theorem popT_out {x : Py.Tgt} {i : Nat} {bk o : List Nat} (h : outS (.popT x i) bk o ≠ .bad) : o.contains i = true ∧ tgtIn x i = false ∧ outS (.popT x i) bk o = .ok (less o (tgtIn x)) := by
  have e : outS (.popT x i) bk o = (need o i).bindO fun o => if tgtIn x i then .bad else .ok (less o (tgtIn x)) := rfl
  rw [e] at h ⊢
  unfold need at h ⊢
  by_cases q : o.contains i = true
  · rw [if_pos q] at h ⊢
    have h : (if tgtIn x i = true then OR.bad else OR.ok (less o (tgtIn x))) ≠ .bad := h
    by_cases z : tgtIn x i = true
    · rw [if_pos z] at h; exact absurd rfl h
    · exact ⟨q, by simpa using z, if_neg z⟩
  · rw [if_neg q] at h; exact absurd rfl h
theorem ss_popT (F : Facts C P w K mg base g lv c) (x : Py.Tgt) (i : Nat) : SndS C P w K mg base g lv c (.popT x i) := by
  refine .only (fun X sc st bk o G h hn => ?_) fun _ _ => rfl
  unfold chkS at h
  split at h
  · rename_i tg y py m' ap cp spos
    obtain ⟨h1, h2, h3, h4⟩ := andB4 h
    have em := of_decide_eq_true h1
    subst em
    obtain ⟨hi, hx, hO⟩ := popT_out hn
    refine PS.imp (ps_asg (pe_bm0 PySem.F.plainAttrs_list PySem.F.slot_list_pop PySem.F.type_list_pop mt_pop (pe_slot G.g (y := y) (p := py) h3) rfl (by simpa using h2)) ((tgt_all (c := c) G.tgt G.g.K x).1 _ h4) (noComp_ok (x := .Call (.Attribute (.Name y py) "pop" ap) [] [] cp) rfl (some tg) spos.line X.env) (by cases tg <;> rfl) (by rw [nameT h4]; rfl)) fun D σ H ⟨A, H0, env, hA, S, hw⟩ => ?_
    rw [hO] at hw
    obtain ⟨tc, etc, hc⟩ := getv_some (wp_and.mp hw)
    obtain ⟨xs, t, rfl, hlast, hq⟩ := popM_wp (wp_and.mp hc)
    obtain ⟨a, es, ow, na, ws, hws, lws⟩ := S.ownT hi etc rfl
    obtain ⟨v, hv, rv⟩ := lws.get hlast
    rw [lws.length] at hv
    refine ⟨_, es, .inl ⟨rfl, ws, SqL.of hws⟩, a, ws, v, rfl, rfl, hws, hv, ?_⟩
    have nu : NewT K H (Ban A o σ env) c (.lst ws.dropLast) (.lst xs.dropLast) := ⟨_, rfl, lws.dropLast⟩
    obtain ⟨m1, m2, m3⟩ := nu.rep (S.kept1 ow _) (ban_at ow) na
    have S2 := (S.write hi etc rfl es m2 m1 m3).weak (o' := less o (tgtIn x)) hA fun j hj => (less_out j hj).1
    refine ⟨Ban A (less o (tgtIn x)) σ (Py.setv env i (.lst xs.dropLast)), _, t, _, S2.ev, (rv.kept (S.kept1 ow _) (ban_at ow)).mono (ban_less hi etc rfl), (bindT_out x (wp_and.mp hq)).mono fun env' ⟨he, hq⟩ σ' _ hs ev => ?_⟩
    exact (show ∀ o', OR.ok (less o (tgtIn x)) = .ok o' → ∀ σ' H', SI K c A H0 o' σ' H' env' → D.nx σ' H' from hq) _ rfl σ' _ (S2.bind less_tgt hs he ev)
  · cases h
theorem popKM_wp {t k : Tr} {R : Tr × Tr → Prop} (h : WP (Py.popKM t k) R) : ∃ xs i j x, t = .lst xs ∧ k = .int i ∧ xs.length ≤ Py.lim ∧ Py.ixI xs.length i = some j ∧ xs[j]? = some x ∧ R (x, .lst (xs.eraseIdx j)) := by
  cases t with
  | lst xs => cases k with
    | int i =>
      obtain ⟨hl, h⟩ := wp_ifs (show WP (if xs.length ≤ Py.lim then (match Py.ixI xs.length i with | some j => (match xs[j]? with | some x => Py.M.ret (x, Py.T.lst (xs.eraseIdx j)) | none => .stuck) | none => .stuck) else .stuck) R from h)
      cases q : Py.ixI xs.length i with
      | none => rw [q] at h; exact False.elim h
      | some j =>
        rw [q] at h
        have h : WP (match xs[j]? with | some x => Py.M.ret (x, Py.T.lst (xs.eraseIdx j)) | none => .stuck) R := h
        cases q2 : xs[j]? with
        | none => rw [q2] at h; exact False.elim h
        | some x => rw [q2] at h; exact ⟨xs, i, j, x, rfl, rfl, hl, q, q2, h⟩
    | _ => exact False.elim h
  | _ => cases k <;> exact False.elim h
theorem RepL.eraseIdx {K : PySem.W.Frag} {H : Hp} {B : Bn} {c : Addr} : ∀ {xs : List Tr} {vs : List V} (_ : RepL K H B c xs vs) (j : Nat), RepL K H B c (xs.eraseIdx j) (vs.eraseIdx j)
  | [], vs, l, j => by
    obtain rfl := l.inv_nil
    exact RepL.nil
  | x :: xs, vs, l, 0 => by
    obtain ⟨v, w, rfl, h1, h2⟩ := l.inv_cons
    exact h2
  | x :: xs, vs, l, j + 1 => by
    obtain ⟨v, w, rfl, h1, h2⟩ := l.inv_cons
    exact .cons h1 (RepL.eraseIdx h2 j)
theorem ixI_bound {n j : Nat} {i : Int} (h : Py.ixI n i = some j) (hn : n ≤ Py.lim) : -(2 ^ 63) ≤ i ∧ i < 2 ^ 63 := by
  have hn : n ≤ 16777216 := hn
  unfold Py.ixI at h
  split at h
  · split at h
    · omega
    · cases h
  · split at h
    · omega
    · cases h
theorem ixI_seq {n j : Nat} {i : Int} (h : Py.ixI n i = some j) : seqIndex? i n = some j := by
  have e : seqIndex? i n = if (decide (0 ≤ (if i < 0 then i + (n : Int) else i)) && decide ((if i < 0 then i + (n : Int) else i) < (n : Int))) = true then some (if i < 0 then i + (n : Int) else i).toNat else none := rfl
  rw [e]
  unfold Py.ixI at h
  split at h
  · rename_i h0
    split at h
    · rename_i h1
      cases h
      rw [if_neg (show ¬ i < 0 by omega), decide_eq_true h0, decide_eq_true h1]; rfl
    · cases h
  · rename_i h0
    split at h
    · rename_i h1
      cases h
      rw [if_pos (show i < 0 by omega), decide_eq_true (show 0 ≤ i + (n : Int) by omega), decide_eq_true (show i + (n : Int) < n by omega)]; rfl
    · cases h
theorem appPop_out {i j : Nat} {k : Py.E} {bk o : List Nat} (h : outS (.appPop j i k) bk o ≠ .bad) : o.contains i = true ∧ o.contains j = true ∧ i ≠ j ∧ outS (.appPop j i k) bk o = .ok o := by
  have e : outS (.appPop j i k) bk o = if (i == j) = true then .bad else (need o i).bindO fun o => need o j := rfl
  rw [e] at h ⊢
  by_cases z : (i == j) = true
  · rw [if_pos z] at h; exact absurd rfl h
  · rw [if_neg z] at h ⊢
    unfold need at h ⊢
    by_cases q : o.contains i = true
    · rw [if_pos q] at h ⊢
      have h : (if o.contains j = true then OR.ok o else OR.bad) ≠ .bad := h
      by_cases q2 : o.contains j = true
      · exact ⟨q, q2, fun e => z (by simpa using e), if_pos q2⟩
      · rw [if_neg q2] at h; exact absurd rfl h
    · rw [if_neg q] at h; exact absurd rfl h
theorem ss_appPop (F : Facts C P w K mg base g lv c) (j i : Nat) (k : Py.E) : SndS C P w K mg base g lv c (.appPop j i k) := by
  refine .only (fun X sc st bk o G h hn => ?_) fun _ _ => rfl
  unfold chkS at h
  split at h
  · rename_i y py m' ap z pz m2 ap2 x cp2 cp spos
    obtain ⟨h0, h5, h6, h7⟩ := andB4 h
    obtain ⟨h1, h2, h3, h4⟩ := andB4 h0
    have em := of_decide_eq_true h1
    subst em
    have em := of_decide_eq_true h2
    subst em
    obtain ⟨hi, hj, nij, hO⟩ := appPop_out hn
    refine PS.imp (ps_expr (pe_bm PySem.F.plainAttrs_list PySem.F.slot_list_append PySem.F.type_list_append mt_append (pe_slot G.g (y := y) (p := py) h5) (pa_cons (pe_bm PySem.F.plainAttrs_list PySem.F.slot_list_pop PySem.F.type_list_pop mt_popAt (pe_slot G.g (y := z) (p := pz) h6) (pa_cons ((snd_all F k).ex.pe X sc x .w G.g h7 okW) pa_nil (star_of h7 [] X.env)) rfl (by rw [star_of h7 [] X.env]; rfl) (by simpa using h4) (star_of h7 [] X.env) rfl) pa_nil rfl) rfl rfl (by simpa using h3) rfl rfl) rfl) fun D σ H ⟨A, H0, env, hA, S, hw⟩ => ?_
    rw [hO] at hw
    obtain ⟨td, etd, hd⟩ := getv_some (wp_and.mp hw)
    obtain ⟨tc, etc, hc⟩ := getv_some (wp_and.mp hd)
    have hc : WP (Py.den C k env) fun kt => WP (Py.popKM tc kt) fun p => WP (Py.appM td p.1) fun t' => post K c A H0 (.ok o) bk D (.nx (Py.setv (Py.setv env i p.2) j t')) := (wp_and.mp hc).mono fun kt hk => (wp_and.mp hk).mono fun p hp => wp_and.mp hp
    -- both are lists, or nothing is known
    have hl : (∃ xs, tc = .lst xs) ∧ ∃ ys, td = .lst ys := by
      refine Classical.byContradiction fun ne => ?_
      refine wp_false (hc.mono fun kt hk => ?_)
      obtain ⟨xs, ii, jj, x, e1, _, _, _, _, hk⟩ := popKM_wp hk
      obtain ⟨ys, e2, _⟩ := appM_wp hk
      exact ne ⟨⟨xs, e1⟩, ys, e2⟩
    obtain ⟨⟨xs, rfl⟩, ys, rfl⟩ := hl
    obtain ⟨b, ejs, owb, nb, us, hus, lus⟩ := S.ownT hj etd rfl
    obtain ⟨a, es, ow, na, ws, hws, lws⟩ := S.ownT hi etc rfl
    refine ⟨_, ejs, .inl ⟨rfl, us, SqL.of hus⟩, _, es, .inl ⟨rfl, ws, SqL.of hws⟩, B0, env, freeHere S, freeEv S, hc.mono fun kt hk kv H1 x1 k1 r1 => ?_⟩
    have S1 := S.move x1 k1
    obtain ⟨xs', ii, jj, t, e1, rfl, hsl, hix, hxt, hk⟩ := popKM_wp hk
    cases e1
    have e2 := wInt (show RepW K H1 B0 c (.int ii) kv from r1); subst e2
    obtain ⟨a', es', ow', na', ws', hws', lws'⟩ := S1.ownT hi etc rfl
    rw [es] at es'
    cases es'
    obtain ⟨v, hv, rv⟩ := lws'.get hxt
    obtain ⟨ys', e3, hz, hq⟩ := appM_wp hk
    cases e3
    obtain ⟨b1, b2⟩ := ixI_bound hix hsl
    refine ⟨a, ws', ii, jj, v, rfl, rfl, hws', b1, b2, by rw [← lws'.length]; exact ixI_seq hix, hv, ?_⟩
    have nu : NewT K H1 (Ban A o σ env) c (.lst (ws'.eraseIdx jj)) (.lst (xs.eraseIdx jj)) := ⟨_, rfl, lws'.eraseIdx jj⟩
    obtain ⟨m1, m2, m3⟩ := nu.rep (S1.kept1 ow' _) (ban_at ow') na'
    have S2 := S1.write hi etc rfl es m2 m1 m3
    have etd2 : (Py.setv env i (.lst (xs.eraseIdx jj)))[j]? = some (some (.lst ys)) := by
      rw [setv_get, if_neg (fun z => nij z.1.symm)]; exact etd
    obtain ⟨b', ejs', owb', nb', us', hus', lus'⟩ := S2.ownT hj etd2 rfl
    rw [ejs] at ejs'
    cases ejs'
    refine ⟨b, us', v, rfl, rfl, hus', by rw [← lus'.length]; exact hz, ?_⟩
    have rv2 : Rep K (upd H1 a (.lst (ws'.eraseIdx jj))) (Ban A o σ (Py.setv env i (.lst (xs.eraseIdx jj)))) c t v := (rv.kept (S1.kept1 ow' (.lst (ws'.eraseIdx jj))) (ban_at ow')).mono fun b hb => hb.elim .inl fun ⟨l, w, q1, q2, q3, q4⟩ => .inr (by
      by_cases q : l = i
      · subst q; exact ⟨l, _, hi, etc, rfl, q4⟩
      · rw [setv_get, if_neg (fun z => q z.1)] at q2
        exact ⟨l, w, q1, q2, q3, q4⟩)
    have nu2 : NewT K (upd H1 a (.lst (ws'.eraseIdx jj))) (Ban A o σ (Py.setv env i (.lst (xs.eraseIdx jj)))) c (.lst (us' ++ [v])) (.lst (ys ++ [t])) := ⟨_, rfl, lus'.append (.cons rv2 .nil)⟩
    obtain ⟨n1, n2, n3⟩ := nu2.rep (S2.kept1 owb' _) (ban_at owb') nb'
    exact (show ∀ o', OR.ok o = .ok o' → ∀ σ' H', SI K c A H0 o' σ' H' (Py.setv (Py.setv env i (.lst (xs.eraseIdx jj))) j (.lst (ys ++ [t]))) → D.nx σ' H' from hq) _ rfl σ _ (S2.write hj etd2 rfl ejs n2 n1 n3)
  · cases h
theorem snd_stm (F : Facts C P w K mg base g lv c) (s : Py.S) : SndS C P w K mg base g lv c s := by
  induction s with
  | skip => exact ss_skip
  | seq a b ha hb => exact ss_seq ha hb
  | asg i e => exact ss_asg F i e
  | asgT x e => exact ss_asgT F x e
  | par xs es => exact ss_par F xs es
  | seti i k e => exact ss_seti F i k e
  | aug i e => exact ss_aug F i e
  | ext i e => exact ss_ext F i e
  | augi i k e => exact ss_no (fun _ _ => rfl) (fun _ _ => rfl)
  | app i e => exact ss_app F i e
  | upd i e => exact ss_no (fun _ _ => rfl) (fun _ _ => rfl)
  | popT x i => exact ss_popT F x i
  | appPop j i k => exact ss_appPop F j i k
  | expr e => exact ss_expr F e
  | ite d a b ha hb => exact ss_ite F d ha hb
  | whl d b hb => exact ss_whl F d hb
  | for_ x it b hb => exact ss_for F x it hb
  | ret e => exact ss_ret F e
  | retN => exact ss_retN
  | brk => exact ss_brk
  | raise n => exact ss_raise n
  | never => exact ss_never
end
end Snd

set_option Elab.async false
set_option linter.all false
set_option maxRecDepth 100000
set_option maxHeartbeats 2000000
namespace Snd
open PySem PySem.Spec L2
open PyProof.Rows hiding St
section
variable {C : Py.Cx} {P : Program} {w : World} {K : PySem.W.Frag} {mg : Str → Option Value} {base : Heap} {g : Gx} {lv : Nat} {c : Addr}
/-- at a def's entry -/
theorem SI.start {H : Hp} {B : Bn} {ts : List Tr} {vs : List V} {N : List Str} (hH : Here B c H) (r : RepL K H B c ts vs) : SI K c B H [] (start N vs) H (Py.startv N.length ts) := by
  have l := r.length
  refine ⟨hH.cup, Ext.refl c H, ⟨fun i t e => ?_, by simp [Py.startv, L2.start, l]⟩, fun a ⟨i, t, h, _⟩ => (by cases h), fun i j t u a h => (by cases h), fun a ⟨i, t, h, _⟩ => (by cases h)⟩
  unfold Py.startv at e
  have hi : i < ts.length := by
    rcases Nat.lt_or_ge i ts.length with q | q
    · exact q
    · rw [List.getElem?_append_right (by simpa using q), List.getElem?_replicate] at e
      split at e <;> cases e
  rw [List.getElem?_append_left (by simpa using hi), List.getElem?_map] at e
  have e' : ts[i]? = some t := by
    cases q : ts[i]? with
    | none => rw [q] at e; cases e
    | some x => rw [q] at e; cases e; rfl
  obtain ⟨v, hv, rv⟩ := r.get e'
  have hb : ∀ a, Ban B [] (L2.start N vs) (Py.startv N.length ts) a → B a := fun a h => h.elim (fun q => q) fun ⟨_, _, q, _⟩ => by cases q
  refine ⟨v, ?_, (rv.mono hb).weak, fun _ => rv.mono hb⟩
  unfold L2.start
  rw [List.getElem?_append_left (by rw [List.length_map]; omega), List.getElem?_map, hv]; rfl
def Gx.at (g : Gx) (N : List Str) : Gx := { g with N := N }
theorem Facts.at (F : Facts C P w K mg base g lv c) (N : List Str) : Facts C P w K mg base (g.at N) lv c := ⟨F.call, F.roll, F.const, F.free⟩
/-- what is checked of a def: its slots, its parameters, the text of its body -/
structure DefOk (g : Gx) (fn : Py.Fn) (N ps : List Str) (body : List Stmt) (scope : Scope) : Prop where
  sc : FnScope N ps scope
  nps : fn.ps = ps.length
  nn : fn.n = N.length
  text : chkB (g.at N) scope fn.body body = true
  own : outS fn.body [] [] ≠ .bad
theorem run_len {fn : Py.Fn} {ts : List Tr} {R : Tr → Prop} (h : WP (Py.run C fn ts) R) : ts.length = fn.ps := by
  unfold Py.run at h
  exact (wp_ifs h).1
/-- a def keeps its promise -/
theorem fn_sound (F : Facts C P w K mg base g lv c) {fn : Py.Fn} {x qual : Str} {params : Arguments} {body : List Stmt} {scope : Scope} {f : Addr} {fd : FuncData} {N ps : List Str} (D : FunD K x qual params body scope [] [] f fd) (ok : DefOk g fn N ps body scope) :
    FnOk P w K mg base CX0 (lv + 1) f fd ps (spF K c (Py.run C fn)) := by
  refine D.ok ok.sc (fun vs H Q E ⟨B, ts, hH, r, hw⟩ => ?_) (fun cdv A outer s H vs Q E hr ⟨B, ts, hH, r, hw⟩ => ⟨tS C K c fn.body [] [], ?_, ?_⟩)
  · rw [← r.length, run_len hw, ok.nps]
  · have G : GoodS P w K mg base (g.at N) lv (cxOf CX0 P w K mg base N qual scope f cdv A outer s H E) scope :=
      ⟨⟨rfl, rfl, rfl, rfl, rfl, rfl, rfl, ok.sc.nd, rfl, hr⟩, fun _ => rfl, ok.sc.kind, passes_of (K := fun e s'' => CX0 outer H s E e s'') rfl⟩
    exact (snd_stm (F.at N) fn.body).bl _ scope body [] [] G ok.text ok.own
  · unfold Py.run at hw
    have hw := wp_and.mp (wp_ifs hw).2
    rw [ok.nn] at hw
    refine ⟨B, H, _, hH, SI.start hH r, hw.mono fun rr hr => ?_⟩
    cases rr with
    | nx e => exact fun o' q σ' H' S => (show Aft K B c H Q .non from hr) .non H' S.ext S.cup repN
    | rt t => exact fun v H' x k rv => (show Aft K B c H Q t from hr) v H' x k rv
    | bk e => exact False.elim hr
/-- one def of the program, by its number -/
structure DefAt (P : Program) (w : World) (K : PySem.W.Frag) (mg : Str → Option Value) (g : Gx) (fn : Py.Fn) (x : Str) : Prop where
  ex : ∃ (qual : Str) (params : Arguments) (body : List Stmt) (scope : Scope) (f : Addr) (fd : FuncData) (N ps : List Str), FunD K x qual params body scope [] [] f fd ∧ DefOk g fn N ps body scope ∧ mg x = some (.ref f) ∧ Binds K fd ps []
/-- all defs, to any depth of calls -/
theorem facts_all {PR : Nat → Option Py.Fn} {W : Nat} (h : ∀ f x, g.defs f = some x → ∃ fn, PR f = some fn ∧ DefAt P w K mg g fn x)
    (roll : ∃ (fa : Addr) (fd : FuncData) (ps : List Str), mg g.roll = some (.ref fa) ∧ PySem.W.keepIn K (.ref fa) = true ∧ Binds K fd ps [] ∧ FnOk P w K mg base CX0 2 fa fd ps (spRoll c))
    (const : ∀ x i, g.consts x = some i → ∃ t, mg x = some (.int i t)) (free : ∀ x, g.free x = true → mg x = none) : ∀ n : Nat, Facts ⟨Py.callP PR W n, W⟩ P w K mg base g (n + 2) c := by
  intro n
  have hr : ∃ (fa : Addr) (fd : FuncData) (ps : List Str), mg g.roll = some (.ref fa) ∧ PySem.W.keepIn K (.ref fa) = true ∧ Binds K fd ps [] ∧ FnOk P w K mg base CX0 (n + 2) fa fd ps (spRoll c) := by
    obtain ⟨fa, fd, ps, h1, h2, h3, h4⟩ := roll
    exact ⟨fa, fd, ps, h1, h2, h3, h4.mono (by omega)⟩
  refine ⟨fun f x hx => ?_, hr, const, free⟩
  obtain ⟨fn, hp, ⟨qual, params, body, scope, fa, fd, N, ps, FD, ok, hm, hb⟩⟩ := h f x hx
  refine ⟨fa, fd, ps, hm, FD.kp, hb, ?_⟩
  cases n with
  | zero =>
    -- too deep: no promise
    exact ⟨fun vs H Q E ⟨B, ts, hH, r, hw⟩ => False.elim hw, fun A outer s H args us vs Q E hr e0 hb hv ⟨B, ts, hH, r, hw⟩ => False.elim hw⟩
  | succ m =>
    have := fn_sound (facts_all (W := W) h roll const free m) FD ok
    refine this.imp fun vs H Q E ⟨B, ts, hH, r, hw⟩ => ⟨B, ts, hH, r, ?_⟩
    have hw : WP (match PR f with | some F => Py.run ⟨Py.callP PR W m, W⟩ F ts | none => .stuck) (Aft K B c H Q) := hw
    rw [hp] at hw
    exact hw
end
end Snd

set_option Elab.async false
set_option linter.all false
set_option maxRecDepth 100000
set_option maxHeartbeats 2000000
namespace Snd
open PySem PySem.Spec L2
open PyProof.Rows hiding St

inductive IE where
  | con (i : Int)
  | v (k : Nat)
  | el (k : Nat) (j : Int)
  | bin (o : Py.Bop) (a b : IE)
  | int (a : IE)
def chkI (g : Gx) (sc : Scope) : IE → Expr → Bool
  | .con i => fun e => (match e with
    | .Constant (.int j) _ _ => decide (i = j)
    | _ => false)
  | .v k => fun e => (match e with
    | .Name y p => chk g sc (.var k) (.Name y p)
    | _ => false)
  | .el k j => fun e => (match e with
    | .Subscript (.Name y p) (.Constant (.int i) _ _) _ => chk g sc (.var k) (.Name y p) && decide (i = j)
    | _ => false)
  | .bin o a b => fun e => (match e with
    | .BinOp x op y _ => sameOp op o && chkI g sc a x && chkI g sc b y
    | _ => false)
  | .int a => fun e => (match e with
    | .Call (.Name x _) [y] [] _ => decide (x = "int") && glOk g sc x && chkI g sc a y
    | _ => false)
def iop : Py.Bop → Int → Int → Option Int
  | .add, i, j => some (i + j)
  | .sub, i, j => some (i - j)
  | .mul, i, j => if Py.okMul i j = true then some (i * j) else none
  | .fdiv, i, j => if 0 < j ∧ j < 1073741824 then some (i / j) else none
  | .mod, i, j => if 0 < j then some (i % j) else none
  | .pow, i, j => if 0 ≤ j ∧ j ≤ 1000000 ∧ i.natAbs < 18446744073709551616 then some (i ^ j.toNat) else none
def ival (ρ : Nat → Option Int) (E : Nat → Option (List Int)) : IE → Option Int
  | .con i => some i
  | .v k => ρ k
  | .el k j => (E k).bind fun L => atI L j
  | .bin o a b => (ival ρ E a).bind fun x => (ival ρ E b).bind fun y => iop o x y
  | .int a => ival ρ E a
structure IEnv (ρ : Nat → Option Int) (E : Nat → Option (List Int)) (σ : L2.St) (H : Hp) : Prop where
  int : ∀ i m, ρ i = some m → σ[i]? = some (some (.int m))
  lst : ∀ i L, E i = some L → ∃ a, σ[i]? = some (some (.ref a)) ∧ H a = some (.lst (L.map V.int))
def tIE (ie : IE) : TE := fun σ H Q => ∃ ρ E n, IEnv ρ E σ H ∧ ival ρ E ie = some n ∧ Q (.int n) H
theorem iop_op {X : L2.Cx} (o : Py.Bop) : OpR X (binaryOp (bopOf o)) (fun x y H Q => ∃ i j n, x = .int i ∧ y = .int j ∧ iop o i j = some n ∧ Q (.int n) H) := by
  intro pins s σ H x y v u Q I rx ry ⟨i, j, n, e1, e2, e3, q⟩
  subst e1 e2
  cases o with
  | add => cases e3; exact op_add pins s σ H _ _ v u Q I rx ry ⟨i, j, rfl, rfl, q⟩
  | sub => cases e3; exact op_sub pins s σ H _ _ v u Q I rx ry ⟨i, j, rfl, rfl, q⟩
  | mul =>
    simp only [iop] at e3
    by_cases hz : Py.okMul i j = true
    · rw [if_pos hz] at e3
      cases e3
      refine op_mul pins s σ H _ _ v u Q I rx ry ⟨i, j, rfl, rfl, ?_, q⟩
      unfold Py.okMul at hz
      simp only [Bool.or_eq_true, Bool.and_eq_true, decide_eq_true_eq] at hz
      unfold CMul
      rcases hz with z | z
      · exact .inl ⟨by have := z.1; omega, by have := z.2; omega⟩
      · exact .inr ⟨by have := z.1; omega, by have := z.2; omega⟩
    · rw [if_neg hz] at e3; cases e3
  | fdiv =>
    simp only [iop] at e3
    by_cases hz : 0 < j ∧ j < 1073741824
    · rw [if_pos hz] at e3
      cases e3
      exact op_fdiv pins s σ H _ _ v u Q I rx ry ⟨i, j, rfl, rfl, hz, q⟩
    · rw [if_neg hz] at e3; cases e3
  | mod =>
    simp only [iop] at e3
    by_cases hz : 0 < j
    · rw [if_pos hz] at e3
      cases e3
      exact op_mod pins s σ H _ _ v u Q I rx ry ⟨i, j, rfl, rfl, hz, q⟩
    · rw [if_neg hz] at e3; cases e3
  | pow =>
    simp only [iop] at e3
    by_cases hz : 0 ≤ j ∧ j ≤ 1000000 ∧ i.natAbs < 18446744073709551616
    · rw [if_pos hz] at e3
      cases e3
      exact op_pow pins s σ H _ _ v u Q I rx ry ⟨i, j, rfl, rfl, ⟨hz.1, hz.2.1, by have := hz.2.2; omega⟩, q⟩
    · rw [if_neg hz] at e3; cases e3
theorem atI_map {L : List Int} {j n : Int} (h : atI L j = some n) : atI (L.map V.int) j = some (.int n) := by
  unfold atI at h ⊢
  rw [List.length_map]
  cases q : ixN L.length j with
  | none => rw [q] at h; cases h
  | some k =>
    rw [q] at h
    show (L.map V.int)[k]? = _
    have h : L[k]? = some n := h
    rw [List.getElem?_map, h]; rfl
section
variable {P : Program} {w : World} {K : PySem.W.Frag} {mg : Str → Option Value} {base : Heap} {g : Gx} {lv : Nat} {c : Addr}
theorem starI {sc : Scope} {ie : IE} {x : Expr} (h : chkI g sc ie x = true) (env : Env) : starEach [x] env = (false, eval x env) :: starEach [] env := by
  cases x <;> first
    | rfl
    | (cases ie <;> cases h)
theorem pe_ie (hf : ∀ x, g.free x = true → mg x = none) {X : L2.Cx} {sc : Scope} (G : Good P w K mg base g lv X sc) (ie : IE) : ∀ {x : Expr}, chkI g sc ie x = true → PE X x (tIE ie) := by
  induction ie with
  | con i =>
    intro x h
    unfold chkI at h
    split at h
    · have e := of_decide_eq_true h
      subst e
      exact PE.imp pe_int fun σ H Q ⟨ρ, E, n, ie, e, q⟩ => by cases e; exact q
    · cases h
  | v k =>
    intro x h
    unfold chkI at h
    split at h
    · exact PE.imp (pe_slot G h) fun σ H Q ⟨ρ, E, n, ie, e, q⟩ => ⟨_, ie.int k n e, q⟩
    · cases h
  | el k j =>
    intro x h
    unfold chkI at h
    split at h
    · obtain ⟨h1, h2⟩ := andB h
      have e := of_decide_eq_true h2
      subst e
      refine PE.imp (pe_ix ix_list (pe_slot G h1) pe_int (fun _ _ => rfl)) fun σ H Q ⟨ρ, E, n, ie, e, q⟩ => ?_
      simp only [ival] at e
      cases hE : E k with
      | none => rw [hE] at e; cases e
      | some L =>
        rw [hE] at e
        obtain ⟨a, s1, s2⟩ := ie.lst k L hE
        exact ⟨_, s1, a, _, _, _, rfl, rfl, SqL.of s2, atI_map e, q⟩
    · cases h
  | bin o a b iha ihb =>
    intro x h
    unfold chkI at h
    split at h
    · obtain ⟨h1, h2, h3⟩ := andB3 h
      have e := sameOp_ok h1
      subst e
      refine PE.imp (pe_op (iop_op o) (iha h2) (ihb h3)) fun σ H Q ⟨ρ, E, n, ie, e, q⟩ => ?_
      simp only [ival] at e
      cases ea : ival ρ E a with
      | none => rw [ea] at e; cases e
      | some i =>
        rw [ea] at e
        cases eb : ival ρ E b with
        | none => simp only [Option.bind, eb] at e; cases e
        | some j =>
          simp only [Option.bind, eb] at e
          exact ⟨ρ, E, i, ie, ea, ρ, E, j, ie, eb, i, j, n, rfl, rfl, e, q⟩
    · cases h
  | int a ih =>
    intro x h
    unfold chkI at h
    split at h
    · obtain ⟨h1, h2, h3⟩ := andB3 h
      have e := of_decide_eq_true h1
      subst e
      obtain ⟨g1, g2, g3⟩ := glOk_inv h2
      refine PE.imp (pe_callTy call_int1 (glo_ok G.sc g1) (by rw [G.mg]; exact hf _ g3) rfl (pa_cons (ih h3) pa_nil (starI h3 X.env)) (by decide) (by decide) (starI h3 X.env) rfl) fun σ H Q ⟨ρ, E, n, ie, e, q⟩ => ?_
      exact ⟨ρ, E, n, ie, e, .inl ⟨n, rfl, q⟩⟩
    · cases h
structure RollK where
  A : Int
  B : Int
  M1 : Int
  D : Int
  M2 : Int
  E : Int
def rollOk (k : RollK) : Bool := decide (0 ≤ k.A) && decide (0 ≤ k.B) && decide (0 < k.M1) && decide (k.M1 ≤ 2147483648) && decide (0 ≤ k.D) && decide (0 < k.M2) && decide (0 < k.E) && decide (k.E < 1073741824)
/-- x = ie -/
def chkSetI (g : Gx) (sc : Scope) (i : Nat) (ie : IE) : Stmt → Bool
  | .Assign [.Name f _] e _ => decide (g.N[i]? = some f) && locB sc f && chkI g sc ie e && noComp e
  | _ => false
/-- x[j] = ie -/
def chkPutI (g : Gx) (sc : Scope) (k : Nat) (j : Int) (ie : IE) : Stmt → Bool
  | .Assign [.Subscript o ix _] e _ => chkI g sc (.v k) o && chkI g sc (.con j) ix && chkI g sc ie e && noComp e
  | _ => false
def chkRetI (g : Gx) (sc : Scope) (ie : IE) : Stmt → Bool
  | .Return (some e) _ => chkI g sc ie e
  | _ => false
def chkIfI (g : Gx) (sc : Scope) (a b : IE) (p : List Stmt → Bool) : Stmt → Bool
  | .If (.Compare t [.Gt] [z] _) sts [] _ => chkI g sc a t && chkI g sc b z && !behindInMarks .Gt z && p sts
  | _ => false
def chk3 (p q r : Stmt → Bool) : List Stmt → Bool
  | [a, b, c] => p a && q b && r c
  | _ => false
def chk4 (p q r s : Stmt → Bool) : List Stmt → Bool
  | [a, b, c, d] => p a && q b && r c && s d
  | _ => false
def chkRoll (g : Gx) (sc : Scope) (k : RollK) : List Stmt → Bool :=
  chk4 (chkIfI g sc (.el 0 0) (.con 0) (chk3 (chkSetI g sc 2 (.bin .mod (.int (.el 0 0)) (.v 1))) (chkPutI g sc 0 0 (.bin .fdiv (.el 0 0) (.v 1))) (chkRetI g sc (.v 2))))
    (chkPutI g sc 0 1 (.bin .mod (.int (.bin .add (.bin .mul (.el 0 1) (.con k.A)) (.con k.B))) (.con k.M1)))
    (chkSetI g sc 3 (.bin .mod (.int (.bin .mul (.el 0 1) (.bin .add (.el 0 1) (.con k.D)))) (.con k.M2)))
    (chkRetI g sc (.bin .mod (.int (.bin .fdiv (.v 3) (.con k.E))) (.v 1)))
theorem ps_setI (hf : ∀ x, g.free x = true → mg x = none) {X : L2.Cx} {sc : Scope} (G : GoodS P w K mg base g lv X sc) {i : Nat} {ie : IE} {st : Stmt} (h : chkSetI g sc i ie st = true) : PS X st (tAsg (tIE ie) (gName i)) := by
  unfold chkSetI at h
  split at h
  · obtain ⟨h1, h2, h3, h4⟩ := andB4 h
    obtain ⟨l1, l2⟩ := G.tgt.loc _ h2
    exact ps_set G.g.nd' (by rw [G.g.N]; exact of_decide_eq_true h1) l1 (pe_ie hf G.g ie h3) (noComp_ok h4 _ _ _) l2
  · cases h
theorem ps_putI (hf : ∀ x, g.free x = true → mg x = none) {X : L2.Cx} {sc : Scope} (G : GoodS P w K mg base g lv X sc) {k : Nat} {j : Int} {ie : IE} {st : Stmt} (h : chkPutI g sc k j ie st = true) : PS X st (tAsg (tIE ie) (gSub (tSl k) (tIE (.con j)) rSetL)) := by
  unfold chkPutI at h
  split at h
  · rename_i o ix tp e p
    obtain ⟨h1, h2, h3, h4⟩ := andB4 h
    have ho : PE X o (tSl k) := by
      unfold chkI at h1
      split at h1
      · exact pe_slot G.g h1
      · cases h1
    have hix : ∀ a b d p, ix ≠ .Slice a b d p := fun a b d p e => by subst e; cases h2
    refine ps_asg (pe_ie hf G.g ie h3) (pg_sub ho (pe_ie hf G.g (.con j) h2) set_list (sub_assign hix)) (show swapsWith e (some (.Subscript o ix tp)) p.line X.env = pure false from noComp_ok h4 _ _ _) (by cases e <;> rfl)
  · cases h
theorem ps_retI (hf : ∀ x, g.free x = true → mg x = none) {X : L2.Cx} {sc : Scope} (G : GoodS P w K mg base g lv X sc) {ie : IE} {st : Stmt} (h : chkRetI g sc ie st = true) : PS X st (tRet (tIE ie)) := by
  unfold chkRetI at h
  split at h
  · exact ps_ret (pe_ie hf G.g ie h)
  · cases h
theorem ps_ifI (hf : ∀ x, g.free x = true → mg x = none) {X : L2.Cx} {sc : Scope} (G : GoodS P w K mg base g lv X sc) {a b : IE} {p : List Stmt → Bool} {t : TS} {st : Stmt} (hp : ∀ sts, p sts = true → PSs X sts t) (h : chkIfI g sc a b p st = true) :
    PS X st (tIfS (fun σ H Q => tOp (rI0 fun i j => .bl (decide (j < i))) (tIE a) (tIE b) σ H fun v H1 => ∃ b, v = .bl b ∧ Q b H1) t tNext) := by
  unfold chkIfI at h
  split at h
  · obtain ⟨h1, h2, h3, h4⟩ := andB4 h
    exact ps_if (pt_cmpR op_gt (pe_ie hf G.g a h1) (pe_ie hf G.g b h2) (notB h3)) (hp _ h4) pss_nil
  · cases h
def cupE (x y : Int) : Nat → Option (List Int)
  | 0 => some [x, y]
  | _ => none
def i1 (k : Nat) (n : Int) : Nat → Option Int := fun j => if j = k then some n else none
theorem i1_ok {σ : L2.St} {k : Nat} {n : Int} (h : σ[k]? = some (some (.int n))) : ∀ i m, i1 k n i = some m → σ[i]? = some (some (.int m)) := fun i m q => by
  unfold i1 at q
  split at q
  · rename_i e; subst e; cases q; exact h
  · cases q
theorem ieC {σ : L2.St} {H : Hp} {k : Nat} {n x y : Int} (h : σ[k]? = some (some (.int n))) (h0 : σ[0]? = some (some (.ref c))) (hc : H c = some (.lst [V.int x, V.int y])) : IEnv (i1 k n) (cupE x y) σ H := by
  refine ⟨i1_ok h, fun i L q => ?_⟩
  cases i with
  | zero => cases q; exact ⟨c, h0, hc⟩
  | succ i => cases q
theorem ie1 {σ : L2.St} {H : Hp} {k : Nat} {n : Int} (h : σ[k]? = some (some (.int n))) : IEnv (i1 k n) (fun _ => none) σ H := ⟨i1_ok h, fun i L q => (by cases q)⟩
theorem ieN {σ : L2.St} {H : Hp} : IEnv (fun _ => none) (fun _ => none) σ H := ⟨fun i m q => (by cases q), fun i L q => (by cases q)⟩
theorem ie2 {σ : L2.St} {H : Hp} {n d : Int} (h : σ[1]? = some (some (.int n))) (h2 : σ[3]? = some (some (.int d))) : IEnv (fun j => if j = 1 then some n else if j = 3 then some d else none) (fun _ => none) σ H := by
  refine ⟨fun i m q => ?_, fun i L q => (by cases q)⟩
  split at q
  · rename_i e; subst e; cases q; exact h
  · split at q
    · rename_i e; subst e; cases q; exact h2
    · cases q
/-- the draw keeps its promise -/
theorem roll_sound (hf : ∀ x, g.free x = true → mg x = none) {x qual : Str} {params : Arguments} {body : List Stmt} {scope : Scope} {f : Addr} {fd : FuncData} {N ps : List Str} (D : FunD K x qual params body scope [] [] f fd) (S : FnScope N ps scope) (hps : ps.length = 2) (hN : N.length = 4) (k : RollK) (hk : rollOk k = true)
    (h : chkRoll (g.at N) scope k body = true) : FnOk P w K mg base CX0 2 f fd ps (spRoll c) := by
  unfold rollOk at hk
  simp only [Bool.and_eq_true, decide_eq_true_eq] at hk
  obtain ⟨⟨⟨⟨⟨⟨⟨a1, a2⟩, a3⟩, a4⟩, a5⟩, a6⟩, a7⟩, a8⟩ := hk
  refine D.ok S (fun vs H Q E ⟨n, e, _⟩ => by rw [e, hps]; rfl) (fun cdv A outer s H vs Q E hr ⟨n, e, hn0, hn1, cup, hq⟩ => ?_)
  subst e
  have G : GoodS P w K mg base (g.at N) 1 (cxOf CX0 P w K mg base N qual scope f cdv A outer s H E) scope :=
    ⟨⟨rfl, rfl, rfl, rfl, rfl, rfl, rfl, S.nd, rfl, hr⟩, fun _ => rfl, S.kind, passes_of (K := fun e s'' => CX0 outer H s E e s'') rfl⟩
  have hf' : ∀ x, (g.at N).free x = true → mg x = none := hf
  unfold chkRoll chk4 at h
  split at h
  · obtain ⟨h1, h2, h3, h4⟩ := andB4 h
    have inner : ∀ sts, chk3 (chkSetI (g.at N) scope 2 (.bin .mod (.int (.el 0 0)) (.v 1))) (chkPutI (g.at N) scope 0 0 (.bin .fdiv (.el 0 0) (.v 1))) (chkRetI (g.at N) scope (.v 2)) sts = true → PSs (cxOf CX0 P w K mg base N qual scope f cdv A outer s H E) sts
        (tSeq (tAsg (tIE (.bin .mod (.int (.el 0 0)) (.v 1))) (gName 2)) (tSeq (tAsg (tIE (.bin .fdiv (.el 0 0) (.v 1))) (gSub (tSl 0) (tIE (.con 0)) rSetL)) (tRet (tIE (.v 2))))) := by
      intro sts hh
      unfold chk3 at hh
      split at hh
      · obtain ⟨q1, q2, q3⟩ := andB3 hh
        exact pss_cons (ps_setI hf' G q1) (pss_cons (ps_putI hf' G q2) (pss_one (ps_retI hf' G q3)))
      · cases hh
    refine ⟨_, pss_cons (ps_ifI hf' G inner h1) (pss_cons (ps_putI hf' G h2) (pss_cons (ps_setI hf' G h3) (pss_one (ps_retI hf' G h4)))), ?_⟩
    obtain ⟨x, y, hc, x0, y0, yb⟩ := cup
    have st : L2.start N [V.ref c, V.int n] = [some (.ref c), some (.int n), none, none] := by
      unfold L2.start
      rw [hN]; rfl
    rw [st]
    have ie0 : IEnv (i1 1 n) (cupE x y) [some (V.ref c), some (V.int n), none, none] H := ieC rfl rfl hc
    have atx : atI [x, y] 0 = some x := rfl
    have aty : atI [x, y] 1 = some y := rfl
    have dn : iop .fdiv x n = some (x / n) := by simp only [iop]; rw [if_pos ⟨hn0, hn1⟩]
    have mn : ∀ z, iop .mod z n = some (z % n) := fun z => by simp only [iop]; rw [if_pos hn0]
    have mul1 : ∀ z w : Int, 0 ≤ z → z < 18446744073709551616 → iop .mul z w = some (z * w) := fun z w h0 h1 => by
      simp only [iop]
      rw [if_pos]
      unfold Py.okMul
      simp only [Bool.or_eq_true, Bool.and_eq_true, decide_eq_true_eq]
      exact .inl ⟨by omega, h1⟩
    refine ⟨i1 1 n, cupE x y, x, ie0, rfl, i1 1 n, cupE x y, 0, ie0, rfl, x, 0, rfl, rfl, decide (0 < x), rfl, ?_⟩
    show (if decide (0 < x) = true then _ else _)
    by_cases hx : 0 < x
    · rw [if_pos (by simpa using hx)]
      -- the first coin
      refine ⟨i1 1 n, cupE x y, x % n, ie0, ?_, ?_⟩
      · show (some x).bind (fun a => (some n).bind fun b => iop .mod a b) = _
        exact mn x
      · refine ⟨i1 1 n, cupE x y, x / n, ieC rfl rfl hc, ?_, ?_⟩
        · show (some x).bind (fun a => (some n).bind fun b => iop .fdiv a b) = _
          exact dn
        · refine ⟨_, rfl, fun _ => none, fun _ => none, 0, ieN, rfl, c, _, 0, 0, rfl, rfl, hc, rfl, ?_⟩
          refine ⟨i1 2 (x % n), fun _ => none, x % n, ie1 rfl, rfl, ?_⟩
          have nn : (0 : Int) ≤ x / n := Int.ediv_nonneg x0 (by omega)
          have le : x / n ≤ x := Int.ediv_le_self _ x0
          refine hq (x % n) _ (Int.emod_nonneg _ (by omega)) (Int.emod_lt_of_pos _ hn0) (fun a o e ne => by rw [upd_ne ne]; exact e) ⟨x / n, y, upd_same, nn, y0, yb⟩
    · rw [if_neg (by simpa using hx)]
      -- the second
      have hM : iop .mod (y * k.A + k.B) k.M1 = some ((y * k.A + k.B) % k.M1) := by simp only [iop]; rw [if_pos a3]
      refine ⟨i1 1 n, cupE x y, (y * k.A + k.B) % k.M1, ie0, ?_, ?_⟩
      · show ((((some y).bind fun a => (some k.A).bind fun b => iop .mul a b).bind fun a => (some k.B).bind fun b => iop .add a b).bind fun a => (some k.M1).bind fun b => iop .mod a b) = _
        simp only [Option.bind_some]
        rw [mul1 y k.A y0 (by omega)]
        simp only [Option.bind_some, iop]
        rw [if_pos a3]
      · generalize hy' : (y * k.A + k.B) % k.M1 = y'
        have y'0 : 0 ≤ y' := by rw [← hy']; exact Int.emod_nonneg _ (by omega)
        have y'1 : y' < k.M1 := by rw [← hy']; exact Int.emod_lt_of_pos _ a3
        refine ⟨_, rfl, fun _ => none, fun _ => none, 1, ieN, rfl, c, _, 1, 1, rfl, rfl, hc, rfl, ?_⟩
        have hc' : (upd H c (.lst ([V.int x, V.int y].set 1 (V.int y')))) c = some (.lst ([x, y'].map V.int)) := upd_same
        refine ⟨i1 1 n, cupE x y', y' * (y' + k.D) % k.M2, ieC rfl rfl hc', ?_, ?_⟩
        · show (((some y').bind fun a => ((some y').bind fun a => (some k.D).bind fun b => iop .add a b).bind fun b => iop .mul a b).bind fun a => (some k.M2).bind fun b => iop .mod a b) = _
          simp only [Option.bind_some]
          rw [show iop .add y' k.D = some (y' + k.D) from rfl]
          simp only [Option.bind_some]
          rw [mul1 y' (y' + k.D) y'0 (by omega)]
          simp only [Option.bind_some, iop]
          rw [if_pos a6]
        · generalize hd : y' * (y' + k.D) % k.M2 = d
          refine ⟨fun j => if j = 1 then some n else if j = 3 then some d else none, fun _ => none, d / k.E % n, ie2 rfl rfl, ?_, ?_⟩
          · show (((some d).bind fun a => (some k.E).bind fun b => iop .fdiv a b).bind fun a => (some n).bind fun b => iop .mod a b) = _
            simp only [Option.bind_some, iop]
            rw [if_pos ⟨a7, a8⟩]
            simp only [Option.bind_some]
            rw [if_pos hn0]
          · exact hq _ _ (Int.emod_nonneg _ (by omega)) (Int.emod_lt_of_pos _ hn0) (fun a o e ne => by rw [upd_ne ne]; exact e) ⟨x, y', hc', x0, y'0, by omega⟩
  · cases h
end
end Snd

set_option Elab.async false
set_option linter.all false
set_option maxRecDepth 100000
set_option maxHeartbeats 2000000
namespace Snd
open PySem PySem.Spec L2
open PyProof.Rows hiding St

section
variable {P : Program} {w : World} {K : PySem.W.Frag} {mg : Str → Option Value} {base : Heap} {g : Gx} {lv : Nat}
def spCup (K : PySem.W.Frag) : Sp := fun vs H Q _ => ∃ (a : Addr) (ns : List Int), vs = [.ref a] ∧ ns.length ≤ 63 ∧ SqL K H a (ns.map V.int) ∧ ∀ c H', (∀ b o, H b = some o → H' b = some o) → H c = none → CupOk H' c → Q (.ref c) H'
def chkC1 (g : Gx) (sc : Scope) (f : Str) (p : Expr → Bool) : Expr → Bool
  | .Call (.Name x _) [y] [] _ => decide (x = f) && glOk g sc x && p y
  | _ => false
def chkIx (g : Gx) (sc : Scope) (j : Int) (p : Expr → Bool) : Expr → Bool
  | .Subscript a i _ => p a && chkI g sc (.con j) i
  | _ => false
def chkCat (p q : Expr → Bool) : Expr → Bool
  | .BinOp a .Add b _ => p a && q b
  | _ => false
def chkLs (p : Expr → Bool) : Expr → Bool
  | .List [z] _ => p z
  | _ => false
def chkLs2 (p q : Expr → Bool) : Expr → Bool
  | .List [y, z] _ => p y && q z
  | _ => false
def chkIfE (p q r : Expr → Bool) : Expr → Bool
  | .IfExp t a b _ => p t && q a && r b
  | _ => false
def chkGe (p q : Expr → Bool) : Expr → Bool
  | .Compare t [.GtE] [z] _ => p t && q z && !behindInMarks .GtE z
  | _ => false
def chkSetE (g : Gx) (sc : Scope) (i : Nat) (p : Expr → Bool) : Stmt → Bool
  | .Assign [.Name f _] e _ => decide (g.N[i]? = some f) && locB sc f && p e && noComp e
  | _ => false
def chkRetE (p : Expr → Bool) : Stmt → Bool
  | .Return (some e) _ => p e
  | _ => false
def chk2 (p q : Stmt → Bool) : List Stmt → Bool
  | [a, b] => p a && q b
  | _ => false
section
variable {X : L2.Cx} {sc : Scope} {p q r : Expr → Bool} {t u v : TE}
/-- no starred argument -/
def NoStar (p : Expr → Bool) : Prop := ∀ (y : Expr) (pos : Pos), p (.Starred y pos) = false
theorem NoStar.ok (h : NoStar p) {y : Expr} (hy : p y = true) (xs : List Expr) (env : Env) : starEach (y :: xs) env = (false, eval y env) :: starEach xs env := by
  cases y with
  | Starred z pos => rw [h] at hy; cases hy
  | _ => rfl
theorem ns_I {ie : IE} : NoStar (chkI g sc ie) := fun y pos => by cases ie <;> rfl
theorem ns_Ix {j : Int} : NoStar (chkIx g sc j p) := fun _ _ => rfl
theorem ns_Ls : NoStar (chkLs p) := fun _ _ => rfl
theorem ns_IfE : NoStar (chkIfE p q r) := fun _ _ => rfl
theorem pe_abs (hf : ∀ x, g.free x = true → mg x = none) (G : Good P w K mg base g lv X sc) (hp : ∀ y, p y = true → PE X y t) (hs : NoStar p) {x : Expr} (h : chkC1 g sc "abs" p x = true) : PE X x (tCB (fun xs H Q => ∃ i, xs = [.int i] ∧ Q (.int (if i < 0 then -i else i)) H) (tCons t tNil)) := by
  unfold chkC1 at h
  split at h
  · obtain ⟨h1, h2, h3⟩ := andB3 h
    have e := of_decide_eq_true h1
    subst e
    obtain ⟨g4, g5, g6⟩ := glOk_inv h2
    exact pe_callB call_abs (glo_ok G.sc g4) (by rw [G.mg]; exact hf _ g6) rfl (pa_cons (hp _ h3) pa_nil (hs.ok h3 [] X.env)) (by decide) (by decide) (hs.ok h3 [] X.env) rfl
  · cases h
theorem pe_lst1 (hf : ∀ x, g.free x = true → mg x = none) (G : Good P w K mg base g lv X sc) (hp : ∀ y, p y = true → PE X y t) (hs : NoStar p) {x : Expr} (h : chkC1 g sc "list" p x = true) : PE X x (tCB (fun xs H Q => ∃ p ys, xs = [.ref p] ∧ (SqL X.K H p ys ∨ SqT X.K H p ys) ∧ ∀ l, H l = none → Q (.ref l) (upd H l (.lst ys))) (tCons t tNil)) := by
  unfold chkC1 at h
  split at h
  · obtain ⟨h1, h2, h3⟩ := andB3 h
    have e := of_decide_eq_true h1
    subst e
    obtain ⟨g4, g5, g6⟩ := glOk_inv h2
    exact pe_callTy call_list_of (glo_ok G.sc g4) (by rw [G.mg]; exact hf _ g6) rfl (pa_cons (hp _ h3) pa_nil (hs.ok h3 [] X.env)) (by decide) (by decide) (hs.ok h3 [] X.env) rfl
  · cases h
theorem pe_ixI (hf : ∀ x, g.free x = true → mg x = none) (G : Good P w K mg base g lv X sc) {j : Int} (hp : ∀ y, p y = true → PE X y t) {x : Expr} (h : chkIx g sc j p x = true) : PE X x (tOp (rIxL X.K) t (tIE (.con j))) := by
  unfold chkIx at h
  split at h
  · rename_i a i pos
    obtain ⟨h1, h2⟩ := andB h
    refine pe_ix ix_list (hp _ h1) (pe_ie hf G (.con j) h2) ?_
    cases i with
    | Slice a b d p => cases h2
    | _ => exact fun _ _ => rfl
  · cases h
theorem pe_catI (hp : ∀ y, p y = true → PE X y t) (hq : ∀ y, q y = true → PE X y u) {x : Expr} (h : chkCat p q x = true) : PE X x (tOp rCat t u) := by
  unfold chkCat at h
  split at h
  · obtain ⟨h1, h2⟩ := andB h
    exact pe_op op_cat (hp _ h1) (hq _ h2)
  · cases h
theorem pe_lsI (hp : ∀ y, p y = true → PE X y t) (hs : NoStar p) {x : Expr} (h : chkLs p x = true) : PE X x (tLst (tCons t tNil)) := by
  unfold chkLs at h
  split at h
  · exact pe_lst (pa_cons (hp _ h) pa_nil (hs.ok h [] X.env))
  · cases h
theorem pe_ls2 (hp : ∀ y, p y = true → PE X y t) (hq : ∀ y, q y = true → PE X y u) (hs : NoStar p) (hs2 : NoStar q) {x : Expr} (h : chkLs2 p q x = true) : PE X x (tLst (tCons t (tCons u tNil))) := by
  unfold chkLs2 at h
  split at h
  · obtain ⟨h1, h2⟩ := andB h
    exact pe_lst (pa_cons (hp _ h1) (pa_cons (hq _ h2) pa_nil (hs2.ok h2 [] X.env)) (hs.ok h1 _ X.env))
  · cases h
theorem pt_geI (hp : ∀ y, p y = true → PE X y t) (hq : ∀ y, q y = true → PE X y u) {x : Expr} (h : chkGe p q x = true) : PT X x (fun σ H Q => tOp (rI0 fun i j => .bl (decide (j ≤ i))) t u σ H fun v H1 => ∃ b, v = .bl b ∧ Q b H1) := by
  unfold chkGe at h
  split at h
  · obtain ⟨h1, h2, h3⟩ := andB3 h
    exact pt_cmpR op_ge (hp _ h1) (hq _ h2) (notB h3)
  · cases h
theorem pe_ifI {tt : TT} (hc : ∀ y, p y = true → PT X y tt) (hq : ∀ y, q y = true → PE X y t) (hr : ∀ y, r y = true → PE X y u) {x : Expr} (h : chkIfE p q r x = true) : PE X x (tIf tt t u) := by
  unfold chkIfE at h
  split at h
  · obtain ⟨h1, h2, h3⟩ := andB3 h
    exact pe_ifExp (hc _ h1) (hq _ h2) (hr _ h3)
  · cases h
theorem pe_vI (G : Good P w K mg base g lv X sc) {k : Nat} {y : Expr} (h : chkI g sc (.v k) y = true) : PE X y (tSl k) := by
  unfold chkI at h
  split at h
  · exact pe_slot G h
  · cases h
theorem ps_setE (G : GoodS P w K mg base g lv X sc) {i : Nat} (hp : ∀ y, p y = true → PE X y t) {st : Stmt} (h : chkSetE g sc i p st = true) : PS X st (tAsg t (gName i)) := by
  unfold chkSetE at h
  split at h
  · obtain ⟨h1, h2, h3, h4⟩ := andB4 h
    obtain ⟨l1, l2⟩ := G.tgt.loc _ h2
    exact ps_set G.g.nd' (by rw [G.g.N]; exact of_decide_eq_true h1) l1 (hp _ h3) (noComp_ok h4 _ _ _) l2
  · cases h
theorem ps_retE (hp : ∀ y, p y = true → PE X y t) {st : Stmt} (h : chkRetE p st = true) : PS X st (tRet t) := by
  unfold chkRetE at h
  split at h
  · exact ps_ret (hp _ h)
  · cases h
end
structure CupK where
  L : Int
  A : Int
  B : Int
  M : Int
  D : Int
def cupOkB (k : CupK) : Bool := decide (0 < k.L) && decide (k.L < 1073741824) && decide (0 ≤ k.A) && decide (k.A < 18446744073709551616) && decide (0 < k.M) && decide (0 ≤ k.D) && decide (k.M + k.D ≤ 2147483648)
def chkCup (g : Gx) (sc : Scope) (k : CupK) : List Stmt → Bool :=
  chk2 (chkSetE g sc 1 (chkC1 g sc "abs" (chkIx g sc 0 (chkCat (chkC1 g sc "list" (chkI g sc (.v 0))) (chkLs (chkI g sc (.con 0)))))))
    (chkRetE (chkLs2 (chkIfE (chkGe (chkI g sc (.v 1)) (chkI g sc (.bin .pow (.con 10) (.con 18)))) (chkI g sc (.bin .fdiv (.v 1) (.con k.L))) (chkI g sc (.con 0)))
      (chkI g sc (.bin .add (.bin .mod (.int (.bin .add (.bin .mul (.v 1) (.con k.A)) (.con k.B))) (.con k.M)) (.con k.D)))))
theorem cup_sound (hf : ∀ x, g.free x = true → mg x = none) {x qual : Str} {params : Arguments} {body : List Stmt} {scope : Scope} {f : Addr} {fd : FuncData} {N ps : List Str} (D : FunD K x qual params body scope [] [] f fd) (S : FnScope N ps scope) (hps : ps.length = 1) (hN : N.length = 2) (k : CupK) (hk : cupOkB k = true)
    (h : chkCup (g.at N) scope k body = true) : FnOk P w K mg base CX0 2 f fd ps (spCup K) := by
  unfold cupOkB at hk
  simp only [Bool.and_eq_true, decide_eq_true_eq] at hk
  obtain ⟨⟨⟨⟨⟨⟨a1, a2⟩, a3⟩, a4⟩, a5⟩, a6⟩, a7⟩ := hk
  have hf' : ∀ x, (g.at N).free x = true → mg x = none := hf
  refine D.ok S (fun vs H Q E ⟨a, ns, e, _⟩ => by rw [e, hps]; rfl) (fun cdv A outer s H vs Q E hr ⟨a, ns, e, hlen, hS, hq⟩ => ?_)
  subst e
  have G : GoodS P w K mg base (g.at N) 1 (cxOf CX0 P w K mg base N qual scope f cdv A outer s H E) scope :=
    ⟨⟨rfl, rfl, rfl, rfl, rfl, rfl, rfl, S.nd, rfl, hr⟩, fun _ => rfl, S.kind, passes_of (K := fun e s'' => CX0 outer H s E e s'') rfl⟩
  unfold chkCup chk2 at h
  split at h
  · obtain ⟨h1, h2⟩ := andB h
    have p1 := ps_setE G (fun y hy => pe_abs hf' G.g (fun y hy => pe_ixI hf' G.g (fun y hy => pe_catI (fun y hy => pe_lst1 hf' G.g (fun y hy => pe_vI G.g hy) ns_I hy) (fun y hy => pe_lsI (fun y hy => pe_ie hf' G.g _ hy) ns_I hy) hy) hy) ns_Ix hy) h1
    have p2 := ps_retE (fun y hy => pe_ls2 (fun y hy => pe_ifI (fun y hy => pt_geI (fun y hy => pe_ie hf' G.g _ hy) (fun y hy => pe_ie hf' G.g _ hy) hy) (fun y hy => pe_ie hf' G.g _ hy) (fun y hy => pe_ie hf' G.g _ hy) hy) (fun y hy => pe_ie hf' G.g _ hy) ns_IfE ns_I hy) h2
    refine ⟨_, pss_cons p1 (pss_one p2), ?_⟩
    have st : L2.start N [V.ref a] = [some (.ref a), none] := by
      unfold L2.start
      rw [hN]; rfl
    rw [st]
    -- the script's list, then [0], then both
    refine ⟨_, rfl, a, _, rfl, .inl hS, fun l1 hl1 => ?_⟩
    refine ⟨fun _ => none, fun _ => none, 0, ieN, rfl, by show 1 ≤ sizeLine; decide, fun l2 hl2 => ?_⟩
    have n12 : l1 ≠ l2 := fun e => by rw [e, upd_same] at hl2; cases hl2
    refine ⟨l1, l2, _, _, rfl, rfl, by rw [upd_ne n12, upd_same], upd_same, ?_, fun l3 hl3 => ?_⟩
    · rw [List.length_map]
      have : (63 : Nat) + 1 ≤ sizeLine := by decide
      show ns.length + 1 ≤ sizeLine
      omega
    -- the first of them
    obtain ⟨z, hz⟩ : ∃ z : Int, atI (ns.map V.int ++ [V.int 0]) 0 = some (.int z) := by
      cases ns with
      | nil => exact ⟨0, rfl⟩
      | cons n ns =>
        refine ⟨n, ?_⟩
        have e : ixN (List.map V.int (n :: ns) ++ [V.int 0]).length 0 = some 0 := by
          unfold ixN
          rw [if_pos (Int.le_refl 0), if_pos (by simp; omega)]
          rfl
        unfold atI
        rw [e]; rfl
    refine ⟨fun _ => none, fun _ => none, 0, ieN, rfl, l3, _, 0, .int z, rfl, rfl, SqL.of upd_same, hz, z, rfl, ?_⟩
    generalize hcell : (if z < 0 then -z else z) = cell
    have c0 : 0 ≤ cell := by rw [← hcell]; split <;> omega
    have pw : ival (i1 1 cell) (fun _ => none) (.bin .pow (.con 10) (.con 18)) = some 1000000000000000000 := by
      show iop .pow 10 18 = _
      simp only [iop]
      rw [if_pos ⟨by omega, by omega, by decide⟩]
      decide
    have md : ival (i1 1 cell) (fun _ => none) (.bin .add (.bin .mod (.int (.bin .add (.bin .mul (.v 1) (.con k.A)) (.con k.B))) (.con k.M)) (.con k.D)) = some ((cell * k.A + k.B) % k.M + k.D) := by
      show ((((((some cell).bind fun a => (some k.A).bind fun b => iop .mul a b).bind fun a => (some k.B).bind fun b => iop .add a b).bind fun a => (some k.M).bind fun b => iop .mod a b).bind fun a => (some k.D).bind fun b => iop .add a b)) = _
      simp only [Option.bind_some]
      have : iop .mul cell k.A = some (cell * k.A) := by
        simp only [iop]
        rw [if_pos]
        unfold Py.okMul
        simp only [Bool.or_eq_true, Bool.and_eq_true, decide_eq_true_eq]
        exact .inr ⟨by omega, a4⟩
      rw [this]
      simp only [Option.bind_some, iop]
      rw [if_pos a5]
      simp only [Option.bind_some]
    have fin : ∀ X0 : Int, 0 ≤ X0 → ∀ l4, (upd (upd (upd H l1 (.lst (ns.map V.int))) l2 (.lst [V.int 0])) l3 (.lst (ns.map V.int ++ [V.int 0]))) l4 = none →
        Q (.ref l4) (upd (upd (upd (upd H l1 (.lst (ns.map V.int))) l2 (.lst [V.int 0])) l3 (.lst (ns.map V.int ++ [V.int 0]))) l4 (.lst [V.int X0, V.int ((cell * k.A + k.B) % k.M + k.D)])) := by
      intro X0 hX l4 hl4
      have kp : ∀ {H : Hp} {p : Addr} {u : HO} {b : Addr} {o : HO}, H p = none → H b = some o → upd H p u b = some o := fun hp hb => by
        rw [upd_ne (ne_of_none hb hp)]; exact hb
      have bk : ∀ {H : Hp} {p q : Addr} {u : HO}, upd H p u q = none → H q = none := fun {H p q u} h => by
        by_cases e : q = p
        · rw [e, upd_same] at h; cases h
        · rw [upd_ne e] at h; exact h
      have m0 : 0 ≤ (cell * k.A + k.B) % k.M := Int.emod_nonneg _ (by omega)
      have m1 : (cell * k.A + k.B) % k.M < k.M := Int.emod_lt_of_pos _ a5
      exact hq l4 _ (fun b o e => kp hl4 (kp hl3 (kp hl2 (kp hl1 e)))) (bk (bk (bk hl4))) ⟨X0, _, upd_same, hX, by omega, by omega⟩
    refine ⟨i1 1 cell, fun _ => none, cell, ie1 rfl, rfl, i1 1 cell, fun _ => none, _, ie1 rfl, pw, cell, _, rfl, rfl, _, rfl, ?_⟩
    show (if decide ((1000000000000000000 : Int) ≤ cell) = true then _ else _)
    by_cases hb : (1000000000000000000 : Int) ≤ cell
    · rw [if_pos (by simpa using hb)]
      refine ⟨i1 1 cell, fun _ => none, cell / k.L, ie1 rfl, ?_, i1 1 cell, fun _ => none, _, ie1 rfl, md, by show 2 ≤ sizeLine; decide, fin _ (Int.ediv_nonneg c0 (by omega))⟩
      show iop .fdiv cell k.L = _
      simp only [iop]
      rw [if_pos ⟨a1, a2⟩]
    · rw [if_neg (by simpa using hb)]
      exact ⟨i1 1 cell, fun _ => none, 0, ie1 rfl, rfl, i1 1 cell, fun _ => none, _, ie1 rfl, md, by show 2 ≤ sizeLine; decide, fin 0 (Int.le_refl _)⟩
  · cases h
end
end Snd

set_option Elab.async false
set_option linter.all false
set_option maxRecDepth 100000
set_option maxHeartbeats 2000000
namespace Snd
open PySem PySem.Spec L2
open PyProof.Rows hiding St

section
variable {P : Program} {w : World} {K : PySem.W.Frag} {mg : Str → Option Value} {base : Heap} {g : Gx} {lv : Nat}
theorem PSs.ex {X : L2.Cx} {sts : List Stmt} {ι : Type} {t : ι → TS} (h : ∀ i, PSs X sts (t i)) : PSs X sts (fun D σ H => ∃ i, t i D σ H) := ⟨fun pins s σ H D I ⟨i, hi⟩ => (h i).run pins s σ H D I hi⟩
def spLaw (K : PySem.W.Frag) : Sp := fun vs H Q _ => ∃ (a : Addr) (ns : List Int), vs = [.ref a] ∧ ns.length ≤ 63 ∧ SqL K H a (ns.map V.int) ∧ ∀ H', Q (.bl true) H'
def chkCupSt (g : Gx) (sc : Scope) (cup : Str) (ic : Nat) : Stmt → Bool
  | .Assign [.Name y _] (.Call (.Name f _) [e] [] _) _ => decide (g.N[ic]? = some y) && locB sc y && (glo sc f && okName f && decide (f = cup)) && chkI g sc (.v 0) e
  | _ => false
def chkLaw (g : Gx) (sc : Scope) (cup : Str) (ic : Nat) (s : Py.S) : List Stmt → Bool
  | st :: rest => chkCupSt g sc cup ic st && chkB g sc s rest
  | [] => false
/-- the slots behind the first statement -/
def lawEnv (n ic : Nat) : Py.Env := Py.setv (List.replicate n none) ic .cup
theorem repl_none {n i : Nat} {t : Tr} : (List.replicate n (none : Option Tr))[i]? ≠ some (some t) := by
  rw [List.getElem?_replicate]
  split <;> exact fun z => nomatch z
theorem law_sound {C : Py.Cx} (F : ∀ c, Facts C P w K mg base g lv c) {x qual : Str} {params : Arguments} {body : List Stmt} {scope : Scope} {f : Addr} {fd : FuncData} {N ps : List Str} (D : FunD K x qual params body scope [] [] f fd) (S : FnScope N ps scope) (hps : ps.length = 1) {s : Py.S} {cup : Str} {ic : Nat} (hic : ic ≠ 0) (hic2 : ic < N.length)
    (cupF : ∃ (fa : Addr) (fd : FuncData) (ps : List Str), mg cup = some (.ref fa) ∧ PySem.W.keepIn K (.ref fa) = true ∧ Binds K fd ps [] ∧ FnOk P w K mg base CX0 lv fa fd ps (spCup K))
    (h : chkLaw (g.at N) scope cup ic s body = true) (hown : outS s [] [] ≠ .bad) (hlaw : WP (Py.exec C s (lawEnv N.length ic)) (fun r => r = .rt (.bl true))) : FnOk P w K mg base CX0 (lv + 1) f fd ps (spLaw K) := by
  refine D.ok S (fun vs H Q E ⟨a, ns, e, _⟩ => by rw [e, hps]; rfl) (fun cdv A outer st0 H vs Q E hr ⟨a, ns, e, hlen, hS, hq⟩ => ?_)
  subst e
  have G : GoodS P w K mg base (g.at N) lv (cxOf CX0 P w K mg base N qual scope f cdv A outer st0 H E) scope :=
    ⟨⟨rfl, rfl, rfl, rfl, rfl, rfl, rfl, S.nd, rfl, hr⟩, fun _ => rfl, S.kind, passes_of (K := fun e s'' => CX0 outer H st0 E e s'') rfl⟩
  unfold chkLaw at h
  split at h
  · obtain ⟨h1, h2⟩ := andB h
    unfold chkCupSt at h1
    split at h1
    · rename_i y py fn fp e cp sp
      obtain ⟨b1, b2, b3, b4⟩ := andB4 h1
      obtain ⟨b5, b6, b7⟩ := andB3 b3
      have e0 := of_decide_eq_true b7
      subst e0
      obtain ⟨fa, fdc, pc, m1, m2, m3, m4⟩ := cupF
      obtain ⟨l1, l2⟩ := G.tgt.loc _ b2
      have pc1 := ps_set (e := .Call (.Name fn fp) [e] [] cp) (pos := sp) (pos' := py) G.g.nd' (by rw [G.g.N]; exact of_decide_eq_true b1) l1 (pe_call (pos := cp) m4 G.g.room (glo_ok G.g.sc b5) m1 m2 m3 .nil pass0 (pa_cons (pe_vI G.g b4) pa_nil (starI b4 _)) (okName_dbg b6) (starI b4 _) rfl) rfl l2
      have rest := PSs.ex fun c => (snd_stm ((F c).at N) s).bl _ scope _ [] [] G h2 hown
      refine ⟨_, pss_cons pc1 rest, ?_⟩
      have lp : ps.length ≤ N.length := by have := congrArg List.length S.pre; rw [List.length_take] at this; omega
      have st1 : (L2.start N [V.ref a])[0]? = some (some (.ref a)) := rfl
      refine ⟨_, st1, a, ns, rfl, hlen, hS, fun c H' keep nc cok => ?_⟩
      -- the rest, with the cup at c
      refine ⟨c, B0, H', lawEnv N.length ic, ⟨cok, fun _ z => z.elim⟩, ⟨cok, Ext.refl c H', ⟨fun i t q => ?_, ?_⟩, fun b ⟨i, t, q, _⟩ => (by cases q), fun i j t u b q => (by cases q), fun b ⟨i, t, q, _⟩ => (by cases q)⟩, hlaw.mono fun r hr => ?_⟩
      · unfold lawEnv at q
        rw [setv_get, List.length_replicate] at q
        by_cases z : i = ic ∧ ic < N.length
        · rw [if_pos z] at q
          cases q
          obtain ⟨rfl, z⟩ := z
          refine ⟨.ref c, ?_, Rep.weak repC, fun _ => repC⟩
          rw [List.getElem?_set_self]
          unfold L2.start
          rw [List.length_append, List.length_map, List.length_replicate]
          simp only [List.length_cons, List.length_nil]
          omega
        · rw [if_neg z] at q
          exact absurd q repl_none
      · unfold lawEnv L2.start
        rw [setv_length, List.length_set, List.length_append, List.length_map, List.length_replicate, List.length_replicate]
        simp only [List.length_cons, List.length_nil]
        omega
      · subst hr
        intro v H2 x2 k2 r2
        have ev := wBl (Rep.weak r2)
        subst ev
        exact hq H2
    · cases h1
  · cases h
end
end Snd

set_option Elab.async false
set_option linter.all false
set_option maxRecDepth 100000
set_option maxHeartbeats 2000000
namespace Snd
open PySem PySem.Spec L2
open PyProof.Rows hiding St
theorem mem_of_lookup' {α : Type} {x : Str} {i : α} : ∀ {l : List (Str × α)}, l.lookup x = some i → (x, i) ∈ l := fun h => PySem.mem_of_lookup h
theorem fscope_by {N P : List Str} {sc : Scope} (h : ((match sc.kind with | .function => true | _ => false) && !sc.isCoroutine && !sc.isGenerator && decide N.Nodup && decide (N.take P.length = P) && (P.all fun x => locB sc x) && sc.names.all fun y => match y.2 with | .free => false | _ => true) = true) : FnScope N P sc := by
  simp only [Bool.and_eq_true, decide_eq_true_eq, Bool.not_eq_true', List.all_eq_true] at h
  obtain ⟨⟨⟨⟨⟨⟨h1, h2⟩, h3⟩, h4⟩, h5⟩, h6⟩, h7⟩ := h
  refine ⟨?_, h2, h3, h4, h5, fun x hx => ?_, fun y hy e => ?_⟩
  · split at h1
    · assumption
    · cases h1
  · have q := h6 x hx
    unfold locB at q
    cases z : sc.names.lookup x with
    | none => rw [z] at q; cases q
    | some k => cases k <;> rw [z] at q <;> simp at q ⊢
  · have q := h7 y hy
    rw [e] at q
    cases q
end Snd

set_option linter.all false
set_option autoImplicit false
namespace Py
/-- whatever is drawn, m comes to a value of which Q holds (a structure: nothing is unfolded unasked) -/
structure W0 {α : Type} (m : M α) (Q : α → Prop) : Prop where
  ok : m.wp (fun _ => False) Q
theorem w0_bind {α β : Type} {m : M α} {f : α → M β} {Q : β → Prop} : W0 (m.bind f) Q ↔ W0 m fun a => W0 (f a) Q :=
  ⟨fun h => ⟨wp_mono (wp_bind.mp h.ok) (fun _ z => z) fun _ z => ⟨z⟩⟩, fun h => ⟨wp_bind.mpr (wp_mono h.ok (fun _ z => z) fun _ z => z.ok)⟩⟩
theorem W0.mono {α : Type} {m : M α} {Q Q' : α → Prop} (h : W0 m Q) (q : ∀ a, Q a → Q' a) : W0 m Q' := ⟨wp_mono h.ok (fun _ z => z) q⟩
theorem w0_val {α : Type} {a : α} {Q : α → Prop} (q : Q a) : W0 (.ret a) Q := ⟨q⟩
theorem w0_ret {α : Type} {m : M α} {a : α} {Q : α → Prop} (h : m = .ret a) (q : Q a) : W0 m Q := by rw [h]; exact ⟨q⟩
theorem w0_draw {α : Type} {n : Int} {k : Int → M α} {Q : α → Prop} (h0 : 0 < n) (h1 : n < 1073741824) (h : ∀ i : Int, 0 ≤ i → i < n → W0 (k i) Q) : W0 (.roll n k) Q := ⟨h0, h1, fun i a b => (h i a b).ok⟩

section
variable {C : Cx} {env : Env}
@[simp] theorem den_var (i : Nat) : den C (.var i) env = getv env i := rfl
@[simp] theorem den_con (t : T) : den C (.con t) env = .ret t := rfl
@[simp] theorem den_nil : den C .nil env = .ret (.tup []) := rfl
@[simp] theorem den_cons (a r : E) : den C (.cons a r) env = (den C a env).bind fun x => (den C r env).bind fun y => consT x y := rfl
@[simp] theorem den_tup (es : E) : den C (.tup es) env = (den C es env).bind fun y => (argsOf y).bind mkTup := rfl
@[simp] theorem den_lst (es : E) : den C (.lst es) env = (den C es env).bind fun y => (argsOf y).bind mkLst := rfl
@[simp] theorem den_dnil : den C .dnil env = .ret (.dct []) := rfl
@[simp] theorem den_bin (o : Bop) (a b : E) : den C (.bin o a b) env = (den C a env).bind fun x => (den C b env).bind fun y => opM o x y := rfl
@[simp] theorem den_neg (a : E) : den C (.neg a) env = (den C a env).bind fun x => (asI x).bind fun i => .ret (.int (-i)) := rfl
@[simp] theorem den_not (a : E) : den C (.not a) env = (den C a env).bind fun x => (asB x).bind fun b => .ret (.bl (!b)) := rfl
@[simp] theorem den_and (a b : E) : den C (.and a b) env = (den C a env).bind fun x => (asB x).bind fun c => if c then (den C b env).bind fun y => (asB y).bind fun c => .ret (.bl c) else .ret (.bl false) := rfl
@[simp] theorem den_or (a b : E) : den C (.or a b) env = (den C a env).bind fun x => (asB x).bind fun c => if c then .ret (.bl true) else (den C b env).bind fun y => (asB y).bind fun c => .ret (.bl c) := rfl
@[simp] theorem den_cmp (o : Cop) (a b : E) : den C (.cmp o a b) env = (den C a env).bind fun x => (den C b env).bind fun y => cmpM o x y := rfl
@[simp] theorem den_chain (o p : Cop) (a b c : E) : den C (.chain o p a b c) env = (den C a env).bind fun x => (den C b env).bind fun y => (cmpM o x y).bind fun r => (asB r).bind fun r => if r then (den C c env).bind fun z => cmpM p y z else .ret (.bl false) := rfl
@[simp] theorem den_ite (c a b : E) : den C (.ite c a b) env = (den C c env).bind fun x => (asB x).bind fun r => if r then den C a env else den C b env := rfl
@[simp] theorem den_call (f : Nat) (es : E) : den C (.call f es) env = (den C es env).bind fun y => (argsOf y).bind fun ts => C.call f ts := rfl
@[simp] theorem den_bi (b : Bi) (es : E) : den C (.bi b es) env = (den C es env).bind fun y => (argsOf y).bind fun ts => biM b ts := rfl
@[simp] theorem den_rng1 (a : E) : den C (.rng1 a) env = (den C a env).bind fun x => (asI x).bind fun n => rngM 0 n := rfl
@[simp] theorem den_rng2 (a b : E) : den C (.rng2 a b) env = (den C a env).bind fun x => (den C b env).bind fun y => (asI x).bind fun i => (asI y).bind fun j => rngM i j := rfl
@[simp] theorem den_zip2 (a b : E) : den C (.zip2 a b) env = (den C a env).bind fun x => (den C b env).bind fun y => (zipM x y).bind fun zs => .ret (.lst zs) := rfl
@[simp] theorem den_enum (a : E) : den C (.enum a) env = (den C a env).bind fun x => (enumM x).bind fun zs => .ret (.lst zs) := rfl
@[simp] theorem den_idx (a i : E) : den C (.idx a i) env = (den C a env).bind fun x => (den C i env).bind fun y => idxM x y := rfl
@[simp] theorem den_slc (a lo hi : E) : den C (.slc a lo hi) env = (den C a env).bind fun x => (partM (isNonE lo) (den C lo env)).bind fun l => (partM (isNonE hi) (den C hi env)).bind fun h => slcM x l h := rfl
@[simp] theorem den_rev (a : E) : den C (.rev a) env = (den C a env).bind revM := rfl
@[simp] theorem den_get1 (a b : E) : den C (.get1 a b) env = (den C a env).bind fun x => (den C b env).bind fun y => get1M x y := rfl
@[simp] theorem den_get2 (d k x : E) : den C (.get2 d k x) env = (den C d env).bind fun a => (den C k env).bind fun y => (den C x env).bind fun z => get2M a y z := rfl
@[simp] theorem den_roll (c n : E) : den C (.roll c n) env = (den C c env).bind fun x => (den C n env).bind fun y => (match x with
      | .cup => (asI y).bind fun n => .roll n fun i => .ret (.int i)
      | _ => .stuck) := rfl

@[simp] theorem exec_skip : exec C .skip env = .ret (.nx env) := rfl
@[simp] theorem exec_seq (a b : S) : exec C (.seq a b) env = (exec C a env).bind fun f => (match f with
      | .nx e => exec C b e
      | .rt t => .ret (.rt t)
      | .bk e => .ret (.bk e)) := rfl
@[simp] theorem exec_asg (i : Nat) (e : E) : exec C (.asg i e) env = (den C e env).bind fun t => .ret (.nx (setv env i t)) := rfl
@[simp] theorem exec_asgT (x : Tgt) (e : E) : exec C (.asgT x e) env = (den C e env).bind fun t => (bindT x t env).bind fun env => .ret (.nx env) := rfl
@[simp] theorem exec_par (xs : List Nat) (es : E) : exec C (.par xs es) env = (den C es env).bind fun y => (argsOf y).bind fun ts => (putAll xs ts env).bind fun env => .ret (.nx env) := rfl
@[simp] theorem exec_seti (i : Nat) (k e : E) : exec C (.seti i k e) env = (den C e env).bind fun v => (getv env i).bind fun c => (den C k env).bind fun k => (setI c k v).bind fun c => .ret (.nx (setv env i c)) := rfl
@[simp] theorem exec_aug (i : Nat) (e : E) : exec C (.aug i e) env = (getv env i).bind fun c => (den C e env).bind fun v => (augM c v).bind fun c => .ret (.nx (setv env i c)) := rfl
@[simp] theorem exec_ext (i : Nat) (e : E) : exec C (.ext i e) env = (getv env i).bind fun c => (den C e env).bind fun v => (extM c v).bind fun c => .ret (.nx (setv env i c)) := rfl
@[simp] theorem exec_app (i : Nat) (e : E) : exec C (.app i e) env = (getv env i).bind fun c => (den C e env).bind fun v => (appM c v).bind fun c => .ret (.nx (setv env i c)) := rfl
@[simp] theorem exec_expr (e : E) : exec C (.expr e) env = (den C e env).bind fun _ => .ret (.nx env) := rfl
@[simp] theorem exec_ite (c : E) (a b : S) : exec C (.ite c a b) env = (den C c env).bind fun x => (asB x).bind fun r => if r then exec C a env else exec C b env := rfl
@[simp] theorem exec_whl (c : E) (b : S) : exec C (.whl c b) env = whileL (den C c) (exec C b) C.W env := rfl
@[simp] theorem exec_for (x : Tgt) (it : E) (b : S) : exec C (.for_ x it b) env = (den C it env).bind fun t => (itemsS t).bind fun xs => forL (bindT x) (exec C b) xs env := rfl
@[simp] theorem exec_ret (e : E) : exec C (.ret e) env = (den C e env).bind fun t => .ret (.rt t) := rfl
@[simp] theorem exec_retN : exec C .retN env = .ret (.rt .non) := rfl
@[simp] theorem exec_brk : exec C .brk env = .ret (.bk env) := rfl
@[simp] theorem exec_raise (c : Nat) : exec C (.raise c) env = .exc c := rfl

@[simp] theorem getv_zero (t : T) (r : Env) : getv (some t :: r) 0 = .ret t := rfl
@[simp] theorem getv_succ (x : Option T) (r : Env) (n : Nat) : getv (x :: r) (n + 1) = getv r n := by cases x <;> rfl
@[simp] theorem setv_zero (x : Option T) (r : Env) (t : T) : setv (x :: r) 0 t = some t :: r := rfl
@[simp] theorem setv_succ (x : Option T) (r : Env) (n : Nat) (t : T) : setv (x :: r) (n + 1) t = x :: setv r n t := rfl
@[simp] theorem wipe1_zero (x : Option T) (r : Env) : wipe1 (x :: r) 0 = none :: r := rfl
@[simp] theorem wipe1_succ (x : Option T) (r : Env) (n : Nat) : wipe1 (x :: r) (n + 1) = x :: wipe1 r n := rfl
@[simp] theorem wipev_nil (e : Env) : wipev e [] = e := rfl
@[simp] theorem wipev_cons (e : Env) (i : Nat) (is : List Nat) : wipev e (i :: is) = wipe1 (wipev e is) i := rfl
@[simp] theorem asB_bl (b : Bool) : asB (.bl b) = .ret b := rfl
@[simp] theorem asI_int (b : Int) : asI (.int b) = .ret b := rfl
@[simp] theorem consT_tup (x : T) (xs : List T) : consT x (.tup xs) = .ret (.tup (x :: xs)) := rfl
@[simp] theorem argsOf_tup (xs : List T) : argsOf (.tup xs) = .ret xs := rfl
@[simp] theorem itemsS_tup (xs : List T) : itemsS (.tup xs) = .ret xs := rfl
@[simp] theorem itemsS_lst (xs : List T) : itemsS (.lst xs) = .ret xs := rfl
@[simp] theorem isNonE_con (t : T) : isNonE (.con t) = (match t with | .non => true | _ => false) := by cases t <;> rfl
@[simp] theorem isNonE_var (i : Nat) : isNonE (.var i) = false := rfl
@[simp] theorem isNonE_bin (o : Bop) (a b : E) : isNonE (.bin o a b) = false := rfl
@[simp] theorem isNonE_neg (a : E) : isNonE (.neg a) = false := rfl
@[simp] theorem partM_true (m : M T) : partM true m = .ret none := rfl
@[simp] theorem partM_int (i : Int) : partM false (.ret (.int i)) = .ret (some i) := rfl
@[simp] theorem bindT_n (i : Nat) (t : T) (env : Env) : bindT (.n i) t env = .ret (setv env i t) := rfl
@[simp] theorem bindT_nil (env : Env) : bindT .nil (.tup []) env = .ret env := rfl
@[simp] theorem bindT_cons (a r : Tgt) (x : T) (xs : List T) (env : Env) : bindT (.cons a r) (.tup (x :: xs)) env = (bindT a x env).bind fun env => bindT r (.tup xs) env := rfl
@[simp] theorem putAll_nil (env : Env) : putAll [] [] env = .ret env := rfl
@[simp] theorem putAll_cons (i : Nat) (is : List Nat) (t : T) (ts : List T) (env : Env) : putAll (i :: is) (t :: ts) env = if i < env.length then putAll is ts (setv env i t) else .stuck := rfl
@[simp] theorem callP_succ (P : Nat → Option Fn) (W n f : Nat) (ts : List T) : callP P W (n + 1) f ts = (match P f with | some F => run ⟨callP P W n, W⟩ F ts | none => .stuck) := rfl
end

theorem compL_pure {tgt : T → Env → M Env} {c : Env → M T} {v : Env → M T} {env0 : Env} (e : T → Env) (p : T → Bool) (f : T → T) : ∀ (xs acc : List T), acc.length + xs.length ≤ lim →
    (∀ x ∈ xs, tgt x env0 = .ret (e x) ∧ c (e x) = .ret (.bl (p x)) ∧ (p x = true → v (e x) = .ret (f x))) →
    compL tgt c (fun e acc => (v e).bind fun t => push t acc) env0 xs acc = .ret (acc ++ (xs.filter p).map f)
  | [], acc, _, _ => by simp [compL]
  | x :: xs, acc, hl, h => by
    obtain ⟨h1, h2, h3⟩ := h x (.head _)
    have hr := fun y hy => h y (.tail _ hy)
    simp only [List.length_cons] at hl
    simp only [compL, h1, h2, bind_ret, asB_bl]
    cases hp : p x with
    | false =>
      simp only [Bool.false_eq_true, if_false, bind_ret]
      rw [compL_pure e p f xs acc (by omega) hr]
      simp [List.filter_cons, hp]
    | true =>
      have hlt : acc.length < lim := by omega
      rw [if_pos rfl, h3 hp, bind_ret, show push (f x) acc = .ret (acc ++ [f x]) from if_pos hlt, bind_ret]
      rw [compL_pure e p f xs _ (by simp only [List.length_append, List.length_cons, List.length_nil]; omega) hr]
      simp [List.filter_cons, hp]
theorem lc_ev {C : Cx} {env : Env} {tgt : Tgt} {it c el : E} {own : List Nat} {t : T} {xs : List T} (e : T → Env) (p : T → Bool) (f : T → T) (hit : den C it env = .ret t) (ht : itemsS t = .ret xs) (hl : xs.length ≤ lim)
    (h : ∀ x ∈ xs, bindT tgt x (wipev env own) = .ret (e x) ∧ den C c (e x) = .ret (.bl (p x)) ∧ (p x = true → den C el (e x) = .ret (f x))) :
    den C (.lc tgt it c own el) env = .ret (.lst ((xs.filter p).map f)) := by
  show (den C it env).bind _ = _
  rw [hit, bind_ret, ht, bind_ret, compL_pure e p f xs [] (by simpa using hl) h]
  rfl
/-- .. all of them -/
theorem lc_map {C : Cx} {env : Env} {tgt : Tgt} {it el : E} {own : List Nat} {t : T} {xs : List T} (e : T → Env) (f : T → T) (hit : den C it env = .ret t) (ht : itemsS t = .ret xs) (hl : xs.length ≤ lim)
    (h : ∀ x ∈ xs, bindT tgt x (wipev env own) = .ret (e x) ∧ den C el (e x) = .ret (f x)) :
    den C (.lc tgt it (.con (.bl true)) own el) env = .ret (.lst (xs.map f)) := by
  rw [lc_ev e (fun _ => true) f hit ht hl fun x hx => ⟨(h x hx).1, rfl, fun _ => (h x hx).2⟩]
  rw [List.filter_eq_self.mpr (fun _ _ => rfl)]
/-- a comprehension whose items are drawn -/
theorem compL_wp {tgt : T → Env → M Env} {c : Env → M T} {v : Env → M T} {env0 : Env} (R : T → T → Prop) : ∀ (xs acc : List T) (Q : List T → Prop), acc.length + xs.length ≤ lim →
    (∀ x ∈ xs, W0 (tgt x env0) fun e => W0 (c e) fun b => b = .bl true ∧ W0 (v e) (R x)) →
    (∀ ys, ys.length = xs.length → (∀ (i : Nat) (x y : T), xs[i]? = some x → ys[i]? = some y → R x y) → Q (acc ++ ys)) →
    W0 (compL tgt c (fun e acc => (v e).bind fun t => push t acc) env0 xs acc) Q
  | [], acc, Q, _, _, q => by
    have := q [] rfl (fun i x y z => by simp at z)
    exact w0_val (by simpa using this)
  | x :: xs, acc, Q, hl, h, q => by
    simp only [List.length_cons] at hl
    unfold compL
    refine w0_bind.mpr ((h x (.head _)).mono fun e he => w0_bind.mpr (he.mono fun b hb => ?_))
    obtain ⟨rfl, hb⟩ := hb
    simp only [asB_bl, bind_ret, if_true]
    rw [bind_assoc]
    refine w0_bind.mpr (hb.mono fun y hy => ?_)
    have hlt : acc.length < lim := by omega
    simp only [push, hlt, if_true, bind_ret]
    refine compL_wp R xs _ Q (by simp only [List.length_append, List.length_cons, List.length_nil]; omega) (fun z hz => h z (.tail _ hz)) fun ys hy1 hy2 => ?_
    have := q (y :: ys) (by simp [hy1]) (fun i a b ha hb => by
      cases i with
      | zero => simp at ha hb; subst ha; subst hb; exact hy
      | succ i => exact hy2 i a b (by simpa using ha) (by simpa using hb))
    simpa using this
theorem w0_shut {α : Type} {m : M α} {Q : α → Prop} (h : W0 m Q) : W0 m.shut Q := by
  have key : ∀ m : M α, m.wp (fun _ => False) Q → m.shut.wp (fun _ => False) Q := by
    intro m
    induction m with
    | ret a => exact fun h => h
    | exc c => exact fun h => h.elim
    | stuck => exact fun h => h
    | roll n k ih => exact fun h => ⟨h.1, h.2.1, fun i h0 h1 => ih i (h.2.2 i h0 h1)⟩
  exact ⟨key m h.ok⟩
theorem lc_wp {C : Cx} {env : Env} {tgt : Tgt} {it el : E} {own : List Nat} {t : T} {xs : List T} {Q : T → Prop} (R : T → T → Prop) (hit : den C it env = .ret t) (ht : itemsS t = .ret xs) (hl : xs.length ≤ lim)
    (h : ∀ x ∈ xs, W0 (bindT tgt x (wipev env own)) fun e => W0 (den C el e) (R x))
    (q : ∀ ys, ys.length = xs.length → (∀ (i : Nat) (x y : T), xs[i]? = some x → ys[i]? = some y → R x y) → Q (.lst ys)) :
    W0 (den C (.lc tgt it (.con (.bl true)) own el) env) Q := by
  show W0 ((den C it env).bind _) _
  rw [hit, bind_ret, ht, bind_ret]
  refine w0_bind.mpr (w0_shut (compL_wp R xs [] _ (by simpa using hl) (fun x hx => (h x hx).mono fun e he => ⟨rfl, he⟩) fun ys h1 h2 => ?_))
  exact w0_val (by simpa using q ys h1 h2)

theorem forL_wp {tgt : T → Env → M Env} {body : Env → M R} {Q : R → Prop} (I : List T → Env → Prop) : ∀ (xs : List T) (env : Env), I xs env →
    (∀ x r e, I (x :: r) e → W0 (tgt x e) fun e1 => W0 (body e1) fun f => match f with
      | .nx e2 => I r e2
      | .bk e2 => Q (.nx e2)
      | .rt t => Q (.rt t)) →
    (∀ e, I [] e → Q (.nx e)) → W0 (forL tgt body xs env) Q
  | [], env, h0, _, h2 => w0_val (h2 env h0)
  | x :: r, env, h0, h1, h2 => by
    unfold forL
    refine w0_bind.mpr ((h1 x r env h0).mono fun e he => w0_bind.mpr (he.mono fun f hf => ?_))
    match f, hf with
    | .nx e2, hf => exact forL_wp I r e2 hf h1 h2
    | .bk e2, hf => exact w0_val hf
    | .rt t, hf => exact w0_val hf
end Py

set_option linter.all false
set_option autoImplicit false
namespace Py
section
variable {C : Cx} {env : Env}
theorem ws_asg {i : Nat} {e : E} {b : S} {t : T} {Q : R → Prop} (h : den C e env = .ret t) (k : W0 (exec C b (setv env i t)) Q) : W0 (exec C (.seq (.asg i e) b) env) Q := by
  simp only [exec_seq, exec_asg, h, bind_ret]; exact k
theorem ws_asgW {i : Nat} {e : E} {b : S} {Q : R → Prop} (h : W0 (den C e env) fun t => W0 (exec C b (setv env i t)) Q) : W0 (exec C (.seq (.asg i e) b) env) Q := by
  simp only [exec_seq, exec_asg, bind_assoc, bind_ret]; exact w0_bind.mpr h
theorem ws_asgT {x : Tgt} {e : E} {b : S} {t : T} {env' : Env} {Q : R → Prop} (h : den C e env = .ret t) (h2 : bindT x t env = .ret env') (k : W0 (exec C b env') Q) : W0 (exec C (.seq (.asgT x e) b) env) Q := by
  simp only [exec_seq, exec_asgT, h, h2, bind_ret]; exact k
theorem ws_par {xs : List Nat} {es : E} {b : S} {ts : List T} {env' : Env} {Q : R → Prop} (h : den C es env = .ret (.tup ts)) (h2 : putAll xs ts env = .ret env') (k : W0 (exec C b env') Q) : W0 (exec C (.seq (.par xs es) b) env) Q := by
  simp only [exec_seq, exec_par, h, h2, bind_ret, argsOf_tup]; exact k
theorem ws_parW {xs : List Nat} {es : E} {b : S} {Q : R → Prop} (h : W0 (den C es env) fun t => ∃ (ts : List T) (env' : Env), t = .tup ts ∧ putAll xs ts env = .ret env' ∧ W0 (exec C b env') Q) : W0 (exec C (.seq (.par xs es) b) env) Q := by
  simp only [exec_seq, exec_par, bind_assoc, bind_ret]
  refine w0_bind.mpr (h.mono fun t ⟨ts, env', e, h2, h3⟩ => ?_)
  subst e
  rw [argsOf_tup, bind_ret, h2, bind_ret]
  exact h3
theorem ws_expr {e : E} {b : S} {t : T} {Q : R → Prop} (h : den C e env = .ret t) (k : W0 (exec C b env) Q) : W0 (exec C (.seq (.expr e) b) env) Q := by
  simp only [exec_seq, exec_expr, h, bind_ret]; exact k
theorem ws_no {c : E} {a b : S} {Q : R → Prop} (h : den C c env = .ret (.bl false)) (k : W0 (exec C b env) Q) : W0 (exec C (.seq (.ite c a .skip) b) env) Q := by
  simp only [exec_seq, exec_ite, h, bind_ret, asB_bl, Bool.false_eq_true, if_false, exec_skip]; exact k
theorem ws_noW {c : E} {a b : S} {Q : R → Prop} (h : W0 (den C c env) fun t => t = .bl false ∧ W0 (exec C b env) Q) : W0 (exec C (.seq (.ite c a .skip) b) env) Q := by
  simp only [exec_seq, exec_ite, bind_assoc]
  refine w0_bind.mpr (h.mono fun t ht => ?_)
  obtain ⟨rfl, k⟩ := ht
  simp only [bind_ret, asB_bl, Bool.false_eq_true, if_false, exec_skip]; exact k
theorem ws_ret {e : E} {b : S} {t : T} {Q : R → Prop} (h : den C e env = .ret t) (k : Q (.rt t)) : W0 (exec C (.seq (.ret e) b) env) Q := by
  simp only [exec_seq, exec_ret, h, bind_ret]; exact w0_val k
theorem ws_retW {e : E} {b : S} {Q : R → Prop} (h : W0 (den C e env) fun t => Q (.rt t)) : W0 (exec C (.seq (.ret e) b) env) Q := by
  simp only [exec_seq, exec_ret, bind_assoc, bind_ret]
  exact w0_bind.mpr (h.mono fun _ z => w0_val z)
theorem xs_asg {i : Nat} {e : E} {b : S} {t : T} {m : M R} (h : den C e env = .ret t) (k : exec C b (setv env i t) = m) : exec C (.seq (.asg i e) b) env = m := by
  simp only [exec_seq, exec_asg, h, bind_ret]; exact k
theorem xs_par {xs : List Nat} {es : E} {b : S} {ts : List T} {env' : Env} {m : M R} (h : den C es env = .ret (.tup ts)) (h2 : putAll xs ts env = .ret env') (k : exec C b env' = m) : exec C (.seq (.par xs es) b) env = m := by
  simp only [exec_seq, exec_par, h, h2, bind_ret, argsOf_tup]; exact k
theorem xs_expr {e : E} {b : S} {t : T} {m : M R} (h : den C e env = .ret t) (k : exec C b env = m) : exec C (.seq (.expr e) b) env = m := by
  simp only [exec_seq, exec_expr, h, bind_ret]; exact k
theorem xs_no {c : E} {a b : S} {m : M R} (h : den C c env = .ret (.bl false)) (k : exec C b env = m) : exec C (.seq (.ite c a .skip) b) env = m := by
  simp only [exec_seq, exec_ite, h, bind_ret, asB_bl, Bool.false_eq_true, if_false, exec_skip]; exact k
theorem xs_yes {c : E} {a a' b : S} {t : T} (h : den C c env = .ret (.bl true)) (k : exec C a env = .ret (.rt t)) : exec C (.seq (.ite c a a') b) env = .ret (.rt t) := by
  simp only [exec_seq, exec_ite, h, bind_ret, asB_bl, if_true, k]
theorem xs_ret {e : E} {b : S} {t : T} (h : den C e env = .ret t) : exec C (.seq (.ret e) b) env = .ret (.rt t) := by
  simp only [exec_seq, exec_ret, h, bind_ret]
theorem s_run {P : Nat → Option Fn} {W n f : Nat} {ts : List T} {F : Fn} {r : T} (hf : P f = some F) (hl : ts.length = F.ps) (h : exec ⟨callP P W n, W⟩ F.body (startv F.n ts) = .ret (.rt r)) : callP P W (n + 1) f ts = .ret r := by
  simp only [callP_succ, hf, run, hl, if_true, h, bind_ret]
theorem s_runN {P : Nat → Option Fn} {W n f : Nat} {ts : List T} {F : Fn} {e : Env} (hf : P f = some F) (hl : ts.length = F.ps) (h : exec ⟨callP P W n, W⟩ F.body (startv F.n ts) = .ret (.nx e)) : callP P W (n + 1) f ts = .ret .non := by
  simp only [callP_succ, hf, run, hl, if_true, h, bind_ret]
theorem d_and {a b : E} {x y : Bool} (h : den C a env = .ret (.bl x)) (k : x = true → den C b env = .ret (.bl y)) : den C (.and a b) env = .ret (.bl (x && y)) := by
  simp only [den_and, h, bind_ret, asB_bl]
  cases x with
  | false => rfl
  | true => simp only [if_true, k rfl, bind_ret, asB_bl, Bool.true_and]
theorem d_or {a b : E} {x y : Bool} (h : den C a env = .ret (.bl x)) (k : x = false → den C b env = .ret (.bl y)) : den C (.or a b) env = .ret (.bl (x || y)) := by
  simp only [den_or, h, bind_ret, asB_bl]
  cases x with
  | true => rfl
  | false => simp only [Bool.false_eq_true, if_false, k rfl, bind_ret, asB_bl, Bool.false_or]
theorem d_not {a : E} {x : Bool} (h : den C a env = .ret (.bl x)) : den C (.not a) env = .ret (.bl (!x)) := by
  simp only [den_not, h, bind_ret, asB_bl]
theorem d_bi1 {o : Bi} {a : E} {x : T} {m : M T} (h : den C a env = .ret x) (k : biM o [x] = m) : den C (.bi o (.cons a .nil)) env = m := by
  simp only [den_bi, den_cons, den_nil, h, bind_ret, consT_tup, argsOf_tup, k]
theorem d_call1 {f : Nat} {a : E} {x : T} {m : M T} (h : den C a env = .ret x) (k : C.call f [x] = m) : den C (.call f (.cons a .nil)) env = m := by
  simp only [den_call, den_cons, den_nil, h, bind_ret, consT_tup, argsOf_tup, k]
theorem d_call2 {f : Nat} {a b : E} {x y : T} {m : M T} (h : den C a env = .ret x) (h2 : den C b env = .ret y) (k : C.call f [x, y] = m) : den C (.call f (.cons a (.cons b .nil))) env = m := by
  simp only [den_call, den_cons, den_nil, h, h2, bind_ret, consT_tup, argsOf_tup, k]
theorem d_call3 {f : Nat} {a b c : E} {x y z : T} {m : M T} (h : den C a env = .ret x) (h2 : den C b env = .ret y) (h3 : den C c env = .ret z) (k : C.call f [x, y, z] = m) : den C (.call f (.cons a (.cons b (.cons c .nil)))) env = m := by
  simp only [den_call, den_cons, den_nil, h, h2, h3, bind_ret, consT_tup, argsOf_tup, k]
theorem d_bin {o : Bop} {a b : E} {x y : T} {m : M T} (h : den C a env = .ret x) (h2 : den C b env = .ret y) (k : opM o x y = m) : den C (.bin o a b) env = m := by
  simp only [den_bin, h, h2, bind_ret, k]
theorem d_cmp {o : Cop} {a b : E} {x y : T} {m : M T} (h : den C a env = .ret x) (h2 : den C b env = .ret y) (k : cmpM o x y = m) : den C (.cmp o a b) env = m := by
  simp only [den_cmp, h, h2, bind_ret, k]
theorem d_idx {a b : E} {x y : T} {m : M T} (h : den C a env = .ret x) (h2 : den C b env = .ret y) (k : idxM x y = m) : den C (.idx a b) env = m := by
  simp only [den_idx, h, h2, bind_ret, k]
theorem d_cons {a r : E} {x : T} {xs : List T} (h : den C a env = .ret x) (h2 : den C r env = .ret (.tup xs)) : den C (.cons a r) env = .ret (.tup (x :: xs)) := by
  simp only [den_cons, h, h2, bind_ret, consT_tup]
theorem d_tup {es : E} {xs : List T} (h : den C es env = .ret (.tup xs)) (hl : xs.length ≤ lim) : den C (.tup es) env = .ret (.tup xs) := by
  simp only [den_tup, h, bind_ret, argsOf_tup, mkTup, hl, if_true]
theorem d_lst {es : E} {xs : List T} (h : den C es env = .ret (.tup xs)) (hl : xs.length ≤ lim) : den C (.lst es) env = .ret (.lst xs) := by
  simp only [den_lst, h, bind_ret, argsOf_tup, mkLst, hl, if_true]
/-- a loop, then the rest -/
theorem ws_for {x : Tgt} {it : E} {bd b : S} {t : T} {xs : List T} {Q : R → Prop} (I : List T → Env → Prop) (h : den C it env = .ret t) (ht : itemsS t = .ret xs) (h0 : I xs env)
    (h1 : ∀ y r e, I (y :: r) e → W0 (bindT x y e) fun e1 => W0 (exec C bd e1) fun f => match f with
      | .nx e2 => I r e2
      | .bk e2 => W0 (exec C b e2) Q
      | .rt t => Q (.rt t)) (h2 : ∀ e, I [] e → W0 (exec C b e) Q) : W0 (exec C (.seq (.for_ x it bd) b) env) Q := by
  simp only [exec_seq, exec_for, h, ht, bind_ret]
  exact w0_bind.mpr (forL_wp I xs env h0 (fun y r e z => (h1 y r e z).mono fun e1 z => z.mono fun f z => match f, z with
    | .nx _, z => z
    | .bk _, z => z
    | .rt _, z => w0_val z) h2)
theorem ws_forW {x : Tgt} {it : E} {bd b : S} {Q : R → Prop} (h : W0 (den C it env) fun t => ∃ xs, itemsS t = .ret xs ∧ ∃ I : List T → Env → Prop, I xs env ∧
    (∀ y r e, I (y :: r) e → W0 (bindT x y e) fun e1 => W0 (exec C bd e1) fun f => match f with
      | .nx e2 => I r e2
      | .bk e2 => W0 (exec C b e2) Q
      | .rt t => Q (.rt t)) ∧ ∀ e, I [] e → W0 (exec C b e) Q) : W0 (exec C (.seq (.for_ x it bd) b) env) Q := by
  simp only [exec_seq, exec_for, bind_assoc]
  refine w0_bind.mpr (h.mono fun t ht => ?_)
  obtain ⟨xs, ht, I, h0, h1, h2⟩ := ht
  simp only [ht, bind_ret]
  exact w0_bind.mpr (forL_wp I xs env h0 (fun y r e z => (h1 y r e z).mono fun e1 z => z.mono fun f z => match f, z with
    | .nx _, z => z
    | .bk _, z => z
    | .rt _, z => w0_val z) h2)
theorem w0_run {P : Nat → Option Fn} {W n f : Nat} {ts : List T} {F : Fn} {Q : T → Prop} (hf : P f = some F) (hl : ts.length = F.ps) (h : W0 (exec ⟨callP P W n, W⟩ F.body (startv F.n ts)) fun r => match r with
    | .nx _ => Q .non
    | .rt t => Q t
    | .bk _ => False) : W0 (callP P W (n + 1) f ts) Q := by
  simp only [callP_succ, hf, run, hl, if_true]
  exact w0_bind.mpr (h.mono fun r hr => match r, hr with
    | .nx _, z => w0_val z
    | .rt _, z => w0_val z
    | .bk _, z => z.elim)
theorem w0_rollE {c n : E} {k : Int} {Q : T → Prop} (hc : den C c env = .ret .cup) (hn : den C n env = .ret (.int k)) (h0 : 0 < k) (h1 : k < 1073741824) (h : ∀ i : Int, 0 ≤ i → i < k → Q (.int i)) : W0 (den C (.roll c n) env) Q := by
  rw [den_roll, hc, bind_ret, hn]
  exact w0_draw h0 h1 fun i a b => w0_val (h i a b)
theorem w0_binE {o : Bop} {a b : E} {Q : T → Prop} (h : W0 (den C a env) fun x => W0 (den C b env) fun y => W0 (opM o x y) Q) : W0 (den C (.bin o a b) env) Q := by
  rw [den_bin]
  exact w0_bind.mpr (h.mono fun x hx => w0_bind.mpr hx)
theorem w0_consE {a r : E} {Q : T → Prop} (h : W0 (den C a env) fun x => W0 (den C r env) fun y => ∃ xs, y = .tup xs ∧ Q (.tup (x :: xs))) : W0 (den C (.cons a r) env) Q := by
  rw [den_cons]
  exact w0_bind.mpr (h.mono fun x hx => w0_bind.mpr (hx.mono fun y ⟨xs, e, q⟩ => by subst e; exact w0_val q))
theorem w0_biE {o : Bi} {a : E} {Q : T → Prop} (h : W0 (den C a env) fun x => W0 (biM o [x]) Q) : W0 (den C (.bi o (.cons a .nil)) env) Q := by
  rw [den_bi, den_cons, bind_assoc]
  refine w0_bind.mpr (h.mono fun x hx => ?_)
  simpa using hx
theorem w0_call1E {f : Nat} {a : E} {Q : T → Prop} (h : W0 (den C a env) fun x => W0 (C.call f [x]) Q) : W0 (den C (.call f (.cons a .nil)) env) Q := by
  rw [den_call, den_cons, bind_assoc]
  refine w0_bind.mpr (h.mono fun x hx => ?_)
  simpa using hx
theorem w0_call2E {f : Nat} {a b : E} {Q : T → Prop} (h : W0 (den C a env) fun x => W0 (den C b env) fun y => W0 (C.call f [x, y]) Q) : W0 (den C (.call f (.cons a (.cons b .nil))) env) Q := by
  rw [den_call, den_cons, bind_assoc]
  refine w0_bind.mpr (h.mono fun x hx => ?_)
  rw [den_cons, bind_assoc, bind_assoc]
  refine w0_bind.mpr (hx.mono fun y hy => ?_)
  simpa using hy
theorem w0_lstE {es : E} {Q : T → Prop} (h : W0 (den C es env) fun x => ∃ xs : List T, x = .tup xs ∧ xs.length ≤ lim ∧ Q (.lst xs)) : W0 (den C (.lst es) env) Q := by
  rw [den_lst]
  refine w0_bind.mpr (h.mono fun x ⟨xs, e, hl, q⟩ => ?_)
  subst e
  refine w0_ret ?_ q
  rw [argsOf_tup, bind_ret]; exact if_pos hl
theorem w0_tupE {es : E} {Q : T → Prop} (h : W0 (den C es env) fun x => ∃ xs : List T, x = .tup xs ∧ xs.length ≤ lim ∧ Q (.tup xs)) : W0 (den C (.tup es) env) Q := by
  rw [den_tup]
  refine w0_bind.mpr (h.mono fun x ⟨xs, e, hl, q⟩ => ?_)
  subst e
  refine w0_ret ?_ q
  rw [argsOf_tup, bind_ret]; exact if_pos hl
end
theorem rngM_nat (a b : Nat) (h : b ≤ a + 16777216) (ha : a < 4611686018427387904) (hb : b < 4611686018427387904) : rngM (a : Int) (b : Int) = .ret (.lst ((List.range (b - a)).map fun i : Nat => .int ((a + i : Nat) : Int))) := by
  unfold rngM
  have e : ((b : Int) - (a : Int)).toNat = b - a := by omega
  have r1 : rngOk (a : Int) = true := by simp [rngOk]; omega
  have r2 : rngOk (b : Int) = true := by simp [rngOk]; omega
  rw [e, r1, r2, if_pos (by simp [lim]; omega)]
  simp
theorem rngM_0 (b : Nat) (h : b ≤ 16777216) : rngM 0 (b : Int) = .ret (.lst ((List.range b).map fun i : Nat => .int (i : Int))) := by
  have := rngM_nat 0 b (by omega) (by omega) (by omega)
  simpa using this

abbrev tI (l : List Int) : T := .tup (l.map .int)
theorem eqL_int : ∀ a b : List Int, eqL (a.map T.int) (b.map T.int) = decide (a = b)
  | [], [] => rfl
  | [], y :: ys => rfl
  | x :: xs, [] => rfl
  | x :: xs, y :: ys => by
    show (x == y && eqL (xs.map T.int) (ys.map T.int)) = _
    rw [eqL_int xs ys]
    by_cases h : x = y <;> simp [h]
@[simp] theorem eqT_tI (a b : List Int) : eqT (tI a) (tI b) = decide (a = b) := eqL_int a b
@[simp] theorem eqT_int (i j : Int) : eqT (.int i) (.int j) = decide (i = j) := by
  show (i == j) = _
  by_cases h : i = j <;> simp [h]
theorem plainL_int : ∀ a : List Int, plainL (a.map T.int) = true
  | [] => rfl
  | _ :: xs => plainL_int xs
theorem depL_int : ∀ a : List Int, depL (a.map T.int) = 0
  | [] => rfl
  | _ :: xs => by show max 0 (depL (xs.map T.int)) = 0; rw [depL_int xs]; rfl
@[simp] theorem plain_tI (a : List Int) : plain (tI a) = true := plainL_int a
@[simp] theorem dep_tI (a : List Int) : dep (tI a) = 1 := by show depL _ + 1 = 1; rw [depL_int]
theorem plainL_tI : ∀ a : List (List Int), plainL (a.map tI) = true
  | [] => rfl
  | x :: xs => by show (plain (tI x) && plainL (xs.map tI)) = true; rw [plainL_tI xs, plain_tI]; rfl
theorem depL_tI : ∀ a : List (List Int), depL (a.map tI) ≤ 1
  | [] => Nat.zero_le _
  | x :: xs => by show max (dep (tI x)) (depL (xs.map tI)) ≤ 1; have := depL_tI xs; rw [dep_tI]; omega
@[simp] theorem eqM_tI (a b : List Int) : eqM (tI a) (tI b) = .ret (decide (a = b)) := by
  unfold eqM eqOk
  rw [plain_tI, plain_tI, dep_tI, dep_tI, eqT_tI]
  rfl
@[simp] theorem eqM_int (a b : Int) : eqM (.int a) (.int b) = .ret (decide (a = b)) := by
  show (if true = true then M.ret (eqT (.int a) (.int b)) else M.stuck) = _
  rw [if_pos rfl, eqT_int]
@[simp] theorem eqM_bl (a b : Bool) : eqM (.bl a) (.bl b) = .ret (a == b) := rfl
/-- the less -/
def ltI : List Int → List Int → Bool
  | [], [] => false
  | [], _ :: _ => true
  | _ :: _, [] => false
  | x :: xs, y :: ys => if x = y then ltI xs ys else decide (x < y)
theorem ltL_int : ∀ a b : List Int, ltL (a.map T.int) (b.map T.int) = ltI a b
  | [], [] => rfl
  | [], y :: ys => rfl
  | x :: xs, [] => rfl
  | x :: xs, y :: ys => by
    show (if eqT (.int x) (.int y) then ltL (xs.map T.int) (ys.map T.int) else decide (x < y)) = _
    rw [ltL_int xs ys, eqT_int]
    simp [ltI]
@[simp] theorem ltT_tI (a b : List Int) : ltT (tI a) (tI b) = ltI a b := ltL_int a b
theorem ltI_irr : ∀ a, ltI a a = false
  | [] => rfl
  | x :: xs => by simp [ltI, ltI_irr xs]
theorem ltI_tot : ∀ a b, ltI a b = false → ltI b a = false → a = b
  | [], [], _, _ => rfl
  | [], y :: ys, h, _ => by cases h
  | x :: xs, [], _, h => by cases h
  | x :: xs, y :: ys, h1, h2 => by
    by_cases e : x = y
    · subst e
      simp only [ltI, if_true] at h1 h2
      rw [ltI_tot xs ys h1 h2]
    · have e' : ¬ y = x := fun z => e z.symm
      simp only [ltI, e, e', if_false, decide_eq_false_iff_not] at h1 h2
      omega
theorem ltI_trans : ∀ a b c, ltI a b = true → ltI b c = true → ltI a c = true
  | [], b, [], _, h => by cases b <;> cases h
  | [], b, _ :: _, _, _ => rfl
  | x :: xs, [], c, h, _ => by cases h
  | x :: xs, y :: ys, [], _, h => by cases h
  | x :: xs, y :: ys, z :: zs, h1, h2 => by
    simp only [ltI] at h1 h2 ⊢
    by_cases e : x = y
    · subst e
      by_cases f : x = z
      · subst f
        simp only [if_true] at h1 h2 ⊢
        exact ltI_trans xs ys zs h1 h2
      · simp only [f, if_false] at h2 ⊢
        exact h2
    · simp only [e, if_false, decide_eq_true_eq] at h1
      by_cases f : y = z
      · subst f
        simp only [e, if_false, decide_eq_true_eq]
        exact h1
      · simp only [f, if_false, decide_eq_true_eq] at h2
        have g : ¬ x = z := by omega
        simp only [g, if_false, decide_eq_true_eq]
        omega
def minI (m : List Int) (xs : List (List Int)) : List Int := xs.foldl (fun a y => if ltI y a then y else a) m
def minS : List (List Int) → List Int
  | [] => []
  | x :: r => minI x r
theorem minL_tI : ∀ (xs : List (List Int)) (m : List Int), minL (tI m) (xs.map tI) = tI (minI m xs)
  | [], _ => rfl
  | x :: xs, m => by
    show minL (if ltT (tI x) (tI m) then tI x else tI m) (xs.map tI) = tI (minI (if ltI x m then x else m) xs)
    rw [ltT_tI, ← minL_tI xs]
    cases ltI x m <;> rfl
theorem minI_spec : ∀ (xs : List (List Int)) (m : List Int), minI m xs ∈ m :: xs ∧ ∀ y ∈ m :: xs, ltI y (minI m xs) = false
  | [], m => ⟨.head _, fun y h => by rw [List.mem_singleton.mp h]; exact ltI_irr m⟩
  | x :: xs, m => by
    show minI (if ltI x m then x else m) xs ∈ _ ∧ ∀ y ∈ _, ltI y (minI (if ltI x m then x else m) xs) = false
    cases e : ltI x m with
    | true =>
      obtain ⟨h1, h2⟩ := minI_spec xs x
      refine ⟨List.mem_cons_of_mem _ h1, fun y hy => ?_⟩
      rcases List.mem_cons.mp hy with rfl | hy
      · have hx := h2 x (.head _)
        cases q : ltI y (minI x xs) with
        | false => simpa using q
        | true => rw [ltI_trans x y _ e q] at hx; cases hx
      · exact h2 y hy
    | false =>
      obtain ⟨h1, h2⟩ := minI_spec xs m
      refine ⟨?_, fun y hy => ?_⟩
      · rcases List.mem_cons.mp h1 with h | h
        · simp only [Bool.false_eq_true, if_false]; rw [h]; exact .head _
        · exact .tail _ (.tail _ h)
      · simp only [Bool.false_eq_true, if_false]
        rcases List.mem_cons.mp hy with rfl | hy
        · exact h2 y (.head _)
        · rcases List.mem_cons.mp hy with rfl | hy
          · cases q : ltI y (minI m xs) with
            | false => rfl
            | true =>
              have hm := h2 m (.head _)
              rcases Classical.em (ltI m y = true) with z | z
              · rw [ltI_trans m y _ z q] at hm; cases hm
              · have := ltI_tot m y (by simpa using z) e
                subst this; rw [hm] at q; cases q
          · exact h2 y (.tail _ hy)
theorem minS_mem {xs : List (List Int)} (h : xs ≠ []) : minS xs ∈ xs := match xs, h with | x :: r, _ => (minI_spec r x).1
theorem minS_le {xs : List (List Int)} {y : List Int} (h : y ∈ xs) : ltI y (minS xs) = false := match xs, h with | x :: r, h => (minI_spec r x).2 y h
theorem minS_eq {xs : List (List Int)} {m : List Int} (h : m ∈ xs) (hl : ∀ y ∈ xs, ltI y m = false) : minS xs = m := by
  have h1 := minS_mem (xs := xs) (fun z => by rw [z] at h; cases h)
  exact ltI_tot _ _ (hl _ h1) (minS_le h)
theorem minS_congr {xs ys : List (List Int)} (h : ∀ y, y ∈ xs ↔ y ∈ ys) : minS xs = minS ys := by
  by_cases e : ys = []
  · subst e
    have : xs = [] := List.eq_nil_iff_forall_not_mem.mpr fun y hy => by have := (h y).mp hy; cases this
    rw [this]
  · exact minS_eq ((h _).mpr (minS_mem e)) fun y hy => minS_le ((h y).mp hy)
theorem alike_tI : ∀ a b : List Int, alikeT (tI a) (tI b) = true
  | [], [] => rfl
  | [], _ :: _ => rfl
  | _ :: _, [] => rfl
  | x :: xs, y :: ys => alike_tI xs ys
theorem cmpAll_tI (xs : List (List Int)) : cmpAll (xs.map tI) = true := by
  unfold cmpAll
  rw [plainL_tI]
  have := depL_tI xs
  have e : decide (depL (xs.map tI) ≤ 60) = true := decide_eq_true (by omega)
  rw [e]
  simp only [Bool.true_and, Bool.and_eq_true, List.all_map, List.all_eq_true]
  refine ⟨fun x _ => List.all_eq_true.mpr fun y _ => alike_tI x y, fun x _ => rfl⟩
theorem min_tI {xs : List (List Int)} (h : xs ≠ []) : biM .min [.lst (xs.map tI)] = .ret (tI (minS xs)) := by
  match xs, h with
  | x :: r, _ =>
    have e := cmpAll_tI (x :: r)
    show (if cmpAll ((x :: r).map tI) = true then M.ret (minL (tI x) (r.map tI)) else .stuck) = _
    rw [if_pos e, minL_tI]
    rfl
theorem min2_tI (a b : List Int) : min2M (tI a) (tI b) = .ret (tI (minS [a, b])) := by
  have e := cmpAll_tI [a, b]
  show (if cmpAll ([a, b].map tI) = true then M.ret (minL (tI a) ([b].map tI)) else .stuck) = _
  rw [if_pos e, minL_tI]
  rfl
def minZ (m : Int) (xs : List Int) : Int := xs.foldl (fun a y => if y < a then y else a) m
theorem minL_int : ∀ (xs : List Int) (m : Int), minL (.int m) (xs.map T.int) = .int (minZ m xs)
  | [], _ => rfl
  | x :: xs, m => by
    show minL (if decide (x < m) = true then T.int x else T.int m) (xs.map T.int) = .int (minZ (if x < m then x else m) xs)
    rw [← minL_int xs]
    by_cases e : x < m <;> simp [e]
theorem minZ_spec : ∀ (xs : List Int) (m : Int), minZ m xs ∈ m :: xs ∧ ∀ y ∈ m :: xs, minZ m xs ≤ y
  | [], m => ⟨.head _, fun y h => by rw [List.mem_singleton.mp h]; exact Int.le_refl _⟩
  | x :: xs, m => by
    show minZ (if x < m then x else m) xs ∈ _ ∧ ∀ y ∈ _, minZ (if x < m then x else m) xs ≤ y
    by_cases e : x < m
    · rw [if_pos e]
      obtain ⟨h1, h2⟩ := minZ_spec xs x
      refine ⟨List.mem_cons_of_mem _ h1, fun y hy => ?_⟩
      rcases List.mem_cons.mp hy with rfl | hy
      · have := h2 x (.head _); omega
      · exact h2 y hy
    · rw [if_neg e]
      obtain ⟨h1, h2⟩ := minZ_spec xs m
      refine ⟨?_, fun y hy => ?_⟩
      · rcases List.mem_cons.mp h1 with h | h
        · rw [h]; exact .head _
        · exact .tail _ (.tail _ h)
      · rcases List.mem_cons.mp hy with rfl | hy
        · exact h2 y (.head _)
        · rcases List.mem_cons.mp hy with rfl | hy
          · have := h2 m (.head _); omega
          · exact h2 y (.tail _ hy)
theorem cmpAll_int (xs : List Int) : cmpAll (xs.map T.int) = true := by
  unfold cmpAll
  rw [plainL_int, depL_int]
  simp only [Bool.true_and, Bool.and_eq_true, List.all_map, List.all_eq_true]
  exact ⟨⟨rfl, fun x _ => List.all_eq_true.mpr fun y _ => rfl⟩, fun x _ => rfl⟩
theorem min_int {xs : List Int} {m : Int} (h : m ∈ xs) (hl : ∀ y ∈ xs, m ≤ y) : biM .min [.lst (xs.map T.int)] = .ret (.int m) := by
  match xs, h, hl with
  | x :: r, h, hl =>
    have e := cmpAll_int (x :: r)
    show (if cmpAll ((x :: r).map T.int) = true then M.ret (minL (.int x) (r.map T.int)) else .stuck) = _
    rw [if_pos e, minL_int]
    obtain ⟨h1, h2⟩ := minZ_spec r x
    have a := hl _ h1
    have b := h2 _ h
    rw [show minZ x r = m by omega]

theorem atT_ok {xs : List T} {k : Int} {x : T} {j : Nat} (hk : k = (j : Int)) (h : xs[j]? = some x) : atT xs k = .ret x := by
  subst hk
  have hl := (List.getElem?_eq_some_iff.mp h).1
  unfold atT ixI
  have e : (0 : Int) ≤ (j : Int) := by omega
  have e2 : (j : Int) < (xs.length : Int) := by omega
  simp [e, e2, h]
theorem atT_neg {xs : List T} {k : Int} {x : T} {j : Nat} (hk : k + xs.length = (j : Int)) (hn : k < 0) (h : xs[j]? = some x) : atT xs k = .ret x := by
  have hl := (List.getElem?_eq_some_iff.mp h).1
  unfold atT ixI
  have e : ¬ (0 : Int) ≤ k := by omega
  have e2 : -(xs.length : Int) ≤ k := by omega
  have e3 : (k + (xs.length : Int)).toNat = j := by omega
  simp [e, e2, e3, h]
end Py

set_option linter.all false
set_option autoImplicit false
set_option maxRecDepth 100000
namespace Py
section
variable {C : Cx} {env : Env}
theorem lc_evA {α : Type} {tgt : Tgt} {it c el : E} {own : List Nat} {t : T} (inj : α → T) (xs : List α) (e : α → Env) (p : α → Bool) (f : α → T) (hit : den C it env = .ret t) (ht : itemsS t = .ret (xs.map inj)) (hl : xs.length ≤ lim)
    (h : ∀ x ∈ xs, bindT tgt (inj x) (wipev env own) = .ret (e x) ∧ den C c (e x) = .ret (.bl (p x)) ∧ (p x = true → den C el (e x) = .ret (f x))) :
    den C (.lc tgt it c own el) env = .ret (.lst ((xs.filter p).map f)) := by
  show (den C it env).bind _ = _
  rw [hit, bind_ret, ht, bind_ret]
  have key : ∀ (xs : List α) (acc : List T), acc.length + xs.length ≤ lim → (∀ x ∈ xs, bindT tgt (inj x) (wipev env own) = .ret (e x) ∧ den C c (e x) = .ret (.bl (p x)) ∧ (p x = true → den C el (e x) = .ret (f x))) →
      compL (bindT tgt) (den C c) (fun e acc => (den C el e).bind fun v => push v acc) (wipev env own) (xs.map inj) acc = .ret (acc ++ (xs.filter p).map f) := by
    intro xs
    induction xs with
    | nil => intro acc _ _; simp [compL]
    | cons x xs ih =>
      intro acc hl h
      obtain ⟨h1, h2, h3⟩ := h x (.head _)
      have hr := fun y hy => h y (.tail _ hy)
      simp only [List.length_cons] at hl
      simp only [compL, h1, h2, bind_ret, asB_bl, List.map_cons]
      cases hp : p x with
      | false =>
        simp only [Bool.false_eq_true, if_false, bind_ret]
        rw [ih acc (by omega) hr]
        simp [List.filter_cons, hp]
      | true =>
        have hlt : acc.length < lim := by omega
        rw [if_pos rfl, h3 hp, bind_ret, show push (f x) acc = .ret (acc ++ [f x]) from if_pos hlt, bind_ret]
        rw [ih _ (by simp only [List.length_append, List.length_cons, List.length_nil]; omega) hr]
        simp [List.filter_cons, hp]
  rw [key xs [] (by simpa using hl) h]
  rfl
theorem lc_mapA {α : Type} {tgt : Tgt} {it el : E} {own : List Nat} {t : T} (inj : α → T) (xs : List α) (e : α → Env) (f : α → T) (hit : den C it env = .ret t) (ht : itemsS t = .ret (xs.map inj)) (hl : xs.length ≤ lim)
    (h : ∀ x ∈ xs, bindT tgt (inj x) (wipev env own) = .ret (e x) ∧ den C el (e x) = .ret (f x)) :
    den C (.lc tgt it (.con (.bl true)) own el) env = .ret (.lst (xs.map f)) := by
  rw [lc_evA inj xs e (fun _ => true) f hit ht hl fun x hx => ⟨(h x hx).1, rfl, fun _ => (h x hx).2⟩]
  rw [List.filter_eq_self.mpr (fun _ _ => rfl)]
theorem d_not' {a : E} {x y : Bool} (h : den C a env = .ret (.bl x)) (e : y = !x) : den C (.not a) env = .ret (.bl y) := by
  rw [e]; exact d_not h
theorem bind_of {α β : Type} {m : M α} {a : α} {f : α → M β} {r : M β} (h : m = .ret a) (k : f a = r) : m.bind f = r := by
  rw [h, bind_ret]; exact k
theorem d_rng1 {a : E} {n : Nat} (h : den C a env = .ret (.int (n : Int))) (hn : n ≤ 16777216) : den C (.rng1 a) env = .ret (.lst ((List.range n).map fun i : Nat => .int (i : Int))) :=
  (den_rng1 a).trans (bind_of h (bind_of (asI_int _) (rngM_0 n hn)))
theorem d_rng2 {a b : E} {m n : Nat} (h : den C a env = .ret (.int (m : Int))) (h2 : den C b env = .ret (.int (n : Int))) (hm : m ≤ 16777216) (hn : n ≤ 16777216) : den C (.rng2 a b) env = .ret (.lst ((List.range (n - m)).map fun i : Nat => .int ((m + i : Nat) : Int))) :=
  (den_rng2 a b).trans (bind_of h (bind_of h2 (bind_of (asI_int _) (bind_of (asI_int _) (rngM_nat m n (by omega) (by omega) (by omega))))))
theorem d_slc {a lo hi : E} {x : T} {l h : Option Int} {m : M T} (ha : den C a env = .ret x) (hl : partM (isNonE lo) (den C lo env) = .ret l) (hh : partM (isNonE hi) (den C hi env) = .ret h) (k : slcM x l h = m) : den C (.slc a lo hi) env = m := by
  simp only [den_slc, ha, hl, hh, bind_ret, k]
theorem d_ite {c a b : E} {x : Bool} {m : M T} (h : den C c env = .ret (.bl x)) (k : (if x = true then den C a env else den C b env) = m) : den C (.ite c a b) env = m := by
  simp only [den_ite, h, bind_ret, asB_bl]; exact k
theorem d_neg {a : E} {i : Int} (h : den C a env = .ret (.int i)) : den C (.neg a) env = .ret (.int (-i)) := by
  simp only [den_neg, h, bind_ret, asI_int]
theorem d_rev {a : E} {x : T} {m : M T} (h : den C a env = .ret x) (k : revM x = m) : den C (.rev a) env = m := by
  simp only [den_rev, h, bind_ret, k]
theorem d_enum {a : E} {xs : List T} (h : den C a env = .ret (.lst xs)) : den C (.enum a) env = .ret (.lst (enumL 0 xs)) := by
  simp only [den_enum, h, bind_ret, enumM]
theorem d_bi2 {o : Bi} {a b : E} {x y : T} {m : M T} (h : den C a env = .ret x) (h2 : den C b env = .ret y) (k : biM o [x, y] = m) : den C (.bi o (.cons a (.cons b .nil))) env = m := by
  simp only [den_bi, den_cons, den_nil, h, h2, bind_ret, consT_tup, argsOf_tup, k]
theorem d_zip2 {a b : E} {x y : T} {zs : List T} (h : den C a env = .ret x) (h2 : den C b env = .ret y) (k : zipM x y = .ret zs) : den C (.zip2 a b) env = .ret (.lst zs) := by
  simp only [den_zip2, h, h2, bind_ret, k]
end
theorem enumL_range (g : Nat → T) : ∀ (n m : Nat), enumL m ((List.range' m n).map g) = (List.range' m n).map fun i : Nat => T.tup [.int (i : Int), g i]
  | 0, _ => rfl
  | n + 1, m => by
    simp only [List.range'_succ, List.map_cons, enumL]
    rw [enumL_range g n (m + 1)]
theorem enumL_range0 (g : Nat → T) (n : Nat) : enumL 0 ((List.range n).map g) = (List.range n).map fun i : Nat => T.tup [.int (i : Int), g i] := by
  rw [List.range_eq_range']; exact enumL_range g n 0
theorem cut_drop (xs : List T) (i : Nat) : cutT xs (some (i : Int)) none = xs.drop i := by
  unfold cutT slIx
  have e : ¬ ((i : Int) < 0) := by omega
  simp only [e, if_false, Int.toNat_natCast]
  by_cases h : i ≤ xs.length
  · rw [Nat.min_eq_left h, List.take_of_length_le (by simp)]
  · rw [Nat.min_eq_right (by omega), List.drop_of_length_le (by omega), List.drop_of_length_le (by omega)]
    simp
theorem cut_take (xs : List T) (i : Nat) : cutT xs none (some (i : Int)) = xs.take i := by
  unfold cutT slIx
  have e : ¬ ((i : Int) < 0) := by omega
  simp only [e, if_false, Int.toNat_natCast, List.drop_zero, Nat.sub_zero]
  by_cases h : i ≤ xs.length
  · rw [Nat.min_eq_left h]
  · rw [Nat.min_eq_right (by omega), List.take_of_length_le (Nat.le_refl _), List.take_of_length_le (by omega)]
theorem cut_init (xs : List T) : cutT xs none (some (-1)) = xs.dropLast := by
  unfold cutT slIx
  simp only [show ((-1 : Int) < 0) from by decide, if_true, List.drop_zero, Nat.sub_zero]
  rw [List.dropLast_eq_take]
  congr 1
  omega
theorem all_map {α : Type} (p : α → Bool) (xs : List α) : biM .all [.lst (xs.map fun x => T.bl (p x))] = .ret (.bl (xs.all p)) := by
  have bools_map : ∀ xs : List α, bools (xs.map fun x => T.bl (p x)) = some (xs.map p) := by
    intro xs
    induction xs with
    | nil => rfl
    | cons x xs ih => show (bools (xs.map fun x => T.bl (p x))).map (p x :: ·) = _; rw [ih]; rfl
  show (match bools (xs.map fun x => T.bl (p x)) with | some bs => M.ret (T.bl (bs.all id)) | none => .stuck) = _
  rw [bools_map]
  simp [List.all_map]
theorem plainL_mem : ∀ {xs : List T} {x : T}, plainL xs = true → x ∈ xs → plain x = true
  | y :: ys, x, h, hx => by
    have h : (plain y && plainL ys) = true := h
    rw [Bool.and_eq_true] at h
    rcases List.mem_cons.mp hx with rfl | hx
    · exact h.1
    · exact plainL_mem h.2 hx
theorem cle_int (i j : Int) : cmpM .le (.int i) (.int j) = .ret (.bl (decide (i ≤ j))) := by
  have e : ordM (.int i) (.int j) = .ret (if i < j then .lt else if j < i then .gt else .eq) := rfl
  simp only [cmpM, e, bind_ret]
  by_cases h : i < j
  · have : i ≤ j := by omega
    simp [h, this]
  · by_cases g : j < i
    · have : ¬ i ≤ j := by omega
      simp [h, g, this]
    · have : i ≤ j := by omega
      simp [h, g, this]
theorem clt_int (i j : Int) : cmpM .lt (.int i) (.int j) = .ret (.bl (decide (i < j))) := by
  have e : ordM (.int i) (.int j) = .ret (if i < j then .lt else if j < i then .gt else .eq) := rfl
  simp only [cmpM, e, bind_ret]
  by_cases h : i < j
  · simp [h]
  · by_cases g : j < i
    · simp [h, g]
    · simp [h, g]
theorem ceq_int (i j : Int) : cmpM .eq (.int i) (.int j) = .ret (.bl (decide (i = j))) := by
  simp only [cmpM, eqM_int, bind_ret]
theorem cne_int (i j : Int) : cmpM .ne (.int i) (.int j) = .ret (.bl (!decide (i = j))) := by
  simp only [cmpM, eqM_int, bind_ret]
theorem ceq_tI (a b : List Int) : cmpM .eq (tI a) (tI b) = .ret (.bl (decide (a = b))) := by
  simp only [cmpM, eqM_tI, bind_ret]
theorem cne_tI (a b : List Int) : cmpM .ne (tI a) (tI b) = .ret (.bl (!decide (a = b))) := by
  simp only [cmpM, eqM_tI, bind_ret]

def whole (v : T) (a b : Int) : Bool := match v with
  | .int i => decide (a ≤ i) && decide (i ≤ b)
  | _ => false
def tupOf (v : T) (a b : Int) : Bool := match v with
  | .tup xs => decide (a ≤ (xs.length : Int)) && decide ((xs.length : Int) ≤ b)
  | _ => false
def f_whole : Fn := ⟨3, 3,
  (.seq (.ret (.and (.bi .isint (.cons (.var 0) .nil)) (.and (.not (.bi .isbool (.cons (.var 0) .nil))) (.chain .le .le (.var 1) (.var 0) (.var 2)))))
  .skip)⟩
def f_tupOf : Fn := ⟨3, 3,
  (.seq (.ret (.and (.bi .istup (.cons (.var 0) .nil)) (.chain .le .le (.var 1) (.bi .len (.cons (.var 0) .nil)) (.var 2))))
  .skip)⟩
section
variable {PR : Nat → Option Fn} {W n f : Nat}
theorem p_whole (hf : PR f = some f_whole) (hn : 1 ≤ n) (v : T) (a b : Int) (hv : plain v = true) : callP PR W n f [v, .int a, .int b] = .ret (.bl (whole v a b)) := by
  obtain ⟨n, rfl⟩ : ∃ m, n = m + 1 := ⟨n - 1, by omega⟩
  refine s_run hf rfl ?_
  show exec _ _ [some v, some (.int a), some (.int b)] = _
  refine xs_ret ?_
  cases v <;> simp [biM, whole, plain] at hv ⊢
  rename_i i
  simp [cle_int]
  by_cases h : a ≤ i <;> simp [h]
theorem p_tupOf (hf : PR f = some f_tupOf) (hn : 1 ≤ n) (v : T) (a b : Int) (hv : plain v = true) : callP PR W n f [v, .int a, .int b] = .ret (.bl (tupOf v a b)) := by
  obtain ⟨n, rfl⟩ : ∃ m, n = m + 1 := ⟨n - 1, by omega⟩
  refine s_run hf rfl ?_
  show exec _ _ [some v, some (.int a), some (.int b)] = _
  refine xs_ret ?_
  cases v <;> simp [biM, tupOf, plain] at hv ⊢
  rename_i xs
  simp [cle_int]
  by_cases h : a ≤ (xs.length : Int) <;> simp [h]
end

def f_some : Fn := ⟨2, 2, (.seq (.ret (.idx (.var 1) (.roll (.var 0) (.bi .len (.cons (.var 1) .nil))))) .skip)⟩
theorem p_some {PR : Nat → Option Fn} {W n f : Nat} (hf : PR f = some f_some) (hn : 1 ≤ n) {xs : List T} {a : T} (ha : a = .lst xs ∨ a = .tup xs) {Q : T → Prop} (h0 : xs ≠ []) (h1 : xs.length < 1073741824) (h : ∀ x ∈ xs, Q x) : W0 (callP PR W n f [.cup, a]) Q := by
  obtain ⟨n, rfl⟩ : ∃ m, n = m + 1 := ⟨n - 1, by omega⟩
  refine w0_run hf rfl ?_
  show W0 (exec _ _ [some .cup, some a]) _
  refine ws_retW ?_
  have hl : 0 < xs.length := List.length_pos_iff.mpr h0
  have key : ∀ i : Int, 0 ≤ i → i < (xs.length : Int) → W0 (atT xs i) Q := fun i i0 i1 => by
    have hj : i.toNat < xs.length := by omega
    rw [atT_ok (j := i.toNat) (by omega) (List.getElem?_eq_getElem hj)]
    exact w0_val (h _ (List.getElem_mem hj))
  rcases ha with rfl | rfl
  · exact w0_draw (by omega) (by omega) key
  · exact w0_draw (by omega) (by omega) key

def f_same (i : Nat) : Fn := ⟨2, 3,
  (.seq (.ite (.bi .istup (.cons (.var 1) .nil))
  (.seq (.ite (.or (.not (.bi .istup (.cons (.var 0) .nil))) (.cmp .ne (.bi .len (.cons (.var 0) .nil)) (.bi .len (.cons (.var 1) .nil))))
  (.seq (.ret (.con (.bl false)))
  .skip)
  .skip)
  (.seq (.ret (.bi .all (.cons (.lc (.n 2) (.rng1 (.bi .len (.cons (.var 1) .nil))) (.con (.bl true)) [2] (.call i (.cons (.idx (.var 0) (.var 2)) (.cons (.idx (.var 1) (.var 2)) .nil)))) .nil)))
  .skip))
  .skip)
  (.seq (.ite (.cmp .is (.var 1) (.con .non))
  (.seq (.ret (.cmp .is (.var 0) (.con .non)))
  .skip)
  .skip)
  (.seq (.ite (.bi .isbool (.cons (.var 1) .nil))
  (.seq (.ret (.ite (.var 1) (.cmp .is (.var 0) (.con (.bl true))) (.cmp .is (.var 0) (.con (.bl false)))))
  .skip)
  .skip)
  (.seq (.ite (.bi .isint (.cons (.var 1) .nil))
  (.seq (.ret (.and (.bi .isint (.cons (.var 0) .nil)) (.and (.not (.bi .isbool (.cons (.var 0) .nil))) (.cmp .eq (.bi .int (.cons (.var 0) .nil)) (.var 1)))))
  .skip)
  .skip)
  (.seq (.ret (.and (.bi .isstr (.cons (.var 0) .nil)) (.cmp .eq (.bi .str (.cons (.var 0) .nil)) (.var 1))))
  .skip)))))⟩
mutual
/-- None, a boolean, an integer, a text, or a tuple of such -/
def good : T → Bool
  | .non => true
  | .bl _ => true
  | .int _ => true
  | .str s => s.all fun n => decide (n < 1114112)
  | .tup xs => decide (xs.length ≤ 16777216) && goodL xs
  | _ => false
def goodL : List T → Bool
  | [] => true
  | x :: xs => good x && goodL xs
end
theorem goodL_mem : ∀ {xs : List T} {x : T}, goodL xs = true → x ∈ xs → good x = true
  | y :: ys, x, h, hx => by
    have h : (good y && goodL ys) = true := h
    rw [Bool.and_eq_true] at h
    rcases List.mem_cons.mp hx with rfl | hx
    · exact h.1
    · exact goodL_mem h.2 hx
theorem depL_mem : ∀ {xs : List T} {x : T}, x ∈ xs → dep x ≤ depL xs
  | y :: ys, x, hx => by
    show dep x ≤ max (dep y) (depL ys)
    rcases List.mem_cons.mp hx with rfl | hx
    · omega
    · have := depL_mem hx; omega
theorem eqN_self (s : List Nat) : (s == s) = true := by simp
theorem p_same {PR : Nat → Option Fn} {W f : Nat} (hf : PR f = some (f_same f)) : ∀ (n : Nat) (t : T), dep t < n → good t = true → callP PR W n f [t, t] = .ret (.bl true)
  | 0, t, h, _ => by omega
  | n + 1, t, hn, hg => by
    refine s_run hf rfl ?_
    show exec _ _ [some t, some t, none] = _
    cases t with
    | tup xs =>
      have hn : depL xs + 1 < n + 1 := hn
      have hg : (decide (xs.length ≤ 16777216) && goodL xs) = true := hg
      rw [Bool.and_eq_true, decide_eq_true_eq] at hg
      refine xs_yes rfl ?_
      refine xs_no ?_ ?_
      · have := d_or (C := ⟨callP PR W n, W⟩) (env := [some (.tup xs), some (.tup xs), none]) (a := .not (.bi .istup (.cons (.var 0) .nil))) (b := .cmp .ne (.bi .len (.cons (.var 0) .nil)) (.bi .len (.cons (.var 1) .nil))) (x := false) (y := false) rfl fun _ => (d_cmp rfl rfl ((cne_int _ _).trans (by simp)))
        exact this
      · refine xs_ret (d_bi1 (lc_mapA (fun i : Nat => .int (i : Int)) (List.range xs.length) (fun i => [some (.tup xs), some (.tup xs), some (.int (i : Int))]) (fun _ => .bl true) (d_rng1 rfl hg.1) rfl (by simpa using hg.1) fun i hi => ⟨rfl, ?_⟩) ((all_map (fun _ => true) _).trans (by simp)))
        have hi := List.mem_range.mp hi
        have e : atT xs (i : Int) = .ret xs[i] := atT_ok rfl (List.getElem?_eq_getElem hi)
        exact d_call2 (d_idx rfl rfl e) (d_idx rfl rfl e) (p_same hf n xs[i] (by have := depL_mem (List.getElem_mem hi); omega) (goodL_mem hg.2 (List.getElem_mem hi)))
    | non => rfl
    | bl b => cases b <;> rfl
    | int i =>
      refine xs_no rfl (xs_no rfl (xs_no rfl (xs_yes rfl (xs_ret ?_))))
      exact (d_and (x := true) (y := true) rfl fun _ => d_and (x := true) (y := true) rfl fun _ => d_cmp rfl rfl ((ceq_int i i).trans (by simp)))
    | str s =>
      refine xs_no rfl (xs_no rfl (xs_no rfl (xs_no rfl (xs_ret ?_))))
      refine (d_and (x := true) (y := true) rfl fun _ => d_cmp rfl rfl ?_)
      have h1 : plain (.str s) = true := hg
      have h2 : eqT (.str s) (.str s) = true := eqN_self s
      show (eqM (.str s) (.str s)).bind _ = _
      have h3 : eqM (.str s) (.str s) = .ret true := by
        unfold eqM eqOk
        rw [h1, h2]; rfl
      rw [h3]; rfl
    | _ => cases hg
end Py

set_option linter.all false
set_option autoImplicit false
set_option maxRecDepth 100000
namespace Py
theorem lim_le {n : Nat} (h : n ≤ 16777216) : n ≤ lim := h
section
variable {C : Cx} {env : Env}
/-- a loop: from prefix to prefix -/
theorem forL_pre {α : Type} {tgt : T → Env → M Env} {body : Env → M R} (inj : α → T) (I : List α → Env → Prop) : ∀ (post pre : List α) (env : Env), I pre env →
    (∀ p x q e, p ++ x :: q = pre ++ post → I p e → ∃ e1 e2, tgt (inj x) e = .ret e1 ∧ body e1 = .ret (.nx e2) ∧ I (p ++ [x]) e2) →
    ∃ env', forL tgt body (post.map inj) env = .ret (.nx env') ∧ I (pre ++ post) env'
  | [], pre, env, h, _ => ⟨env, rfl, by rwa [List.append_nil]⟩
  | x :: post, pre, env, h, step => by
    obtain ⟨e1, e2, h1, h2, h3⟩ := step pre x post env rfl h
    obtain ⟨e3, h4, h5⟩ := forL_pre (tgt := tgt) (body := body) inj I post (pre ++ [x]) e2 h3 (fun p y q e z => step p y q e (by rw [z]; simp))
    refine ⟨e3, ?_, by simpa using h5⟩
    simp only [List.map_cons, forL, h1, h2, bind_ret]
    exact h4
theorem xs_for {α : Type} {x : Tgt} {it : E} {bd b : S} {t : T} {m : M R} (inj : α → T) (xs : List α) (I : List α → Env → Prop) (h : den C it env = .ret t) (ht : itemsS t = .ret (xs.map inj)) (h0 : I [] env)
    (step : ∀ p y q e, p ++ y :: q = xs → I p e → ∃ e1 e2, bindT x (inj y) e = .ret e1 ∧ exec C bd e1 = .ret (.nx e2) ∧ I (p ++ [y]) e2)
    (k : ∀ e, I xs e → exec C b e = m) : exec C (.seq (.for_ x it bd) b) env = m := by
  obtain ⟨e', h1, h2⟩ := forL_pre (tgt := bindT x) (body := exec C bd) inj I xs [] env h0 (fun p y q e z => step p y q e z)
  simp only [exec_seq, exec_for, h, ht, bind_ret, h1]
  exact k e' h2
/-- .. as the last step of a block -/
theorem xs_forL {α : Type} {x : Tgt} {it : E} {bd : S} {t : T} (inj : α → T) (xs : List α) (I : List α → Env → Prop) (h : den C it env = .ret t) (ht : itemsS t = .ret (xs.map inj)) (h0 : I [] env)
    (step : ∀ p y q e, p ++ y :: q = xs → I p e → ∃ e1 e2, bindT x (inj y) e = .ret e1 ∧ exec C bd e1 = .ret (.nx e2) ∧ I (p ++ [y]) e2) :
    ∃ e', exec C (.seq (.for_ x it bd) .skip) env = .ret (.nx e') ∧ I xs e' := by
  obtain ⟨e', h1, h2⟩ := forL_pre (tgt := bindT x) (body := exec C bd) inj I xs [] env h0 (fun p y q e z => step p y q e z)
  refine ⟨e', ?_, h2⟩
  simp only [exec_seq, exec_for, h, ht, bind_ret, h1, exec_skip]
/-- a while that ends: J k holds with at most k turns to come -/
theorem whileL_ev {c : Env → M T} {body : Env → M R} {r : M R} {rest : Env → M R} (J : Nat → Env → Prop)
    (step : ∀ k e, J k e → (c e = .ret (.bl true) ∧ ((∃ e2 k', k = k' + 1 ∧ body e = .ret (.nx e2) ∧ J k' e2) ∨ ∃ t, body e = .ret (.rt t) ∧ r = .ret (.rt t))) ∨ (c e = .ret (.bl false) ∧ rest e = r)) :
    ∀ (n k : Nat) (e : Env), k < n → J k e → ((whileL c body n e).bind fun f => match f with
      | .nx e => rest e
      | .rt t => .ret (.rt t)
      | .bk e => .ret (.bk e)) = r
  | 0, k, e, h, _ => by omega
  | n + 1, k, e, h, j => by
    unfold whileL
    rcases step k e j with ⟨h1, h2⟩ | ⟨h1, h2⟩
    · rw [h1]
      simp only [bind_ret, asB_bl, if_true]
      rcases h2 with ⟨e2, k', rfl, h3, h4⟩ | ⟨t, h3, h4⟩
      · rw [h3]
        simp only [bind_ret]
        exact whileL_ev J step n k' e2 (by omega) h4
      · rw [h3, h4]
        simp only [bind_ret]
    · rw [h1]
      simp only [bind_ret, asB_bl, Bool.false_eq_true, if_false]
      exact h2
theorem xs_whl {c : E} {bd b : S} {r : M R} (J : Nat → Env → Prop) (k : Nat) (hk : k < C.W) (h0 : J k env)
    (step : ∀ k e, J k e → (den C c e = .ret (.bl true) ∧ ((∃ e2 k', k = k' + 1 ∧ exec C bd e = .ret (.nx e2) ∧ J k' e2) ∨ ∃ t, exec C bd e = .ret (.rt t) ∧ r = .ret (.rt t))) ∨ (den C c e = .ret (.bl false) ∧ exec C b e = r)) :
    exec C (.seq (.whl c bd) b) env = r := by
  simp only [exec_seq, exec_whl]
  exact whileL_ev (rest := exec C b) J step C.W k env hk h0
theorem xs_seti {i : Nat} {k e : E} {b : S} {c kk v c' : T} {m : M R} (he : den C e env = .ret v) (hc : getv env i = .ret c) (hk : den C k env = .ret kk) (hs : setI c kk v = .ret c') (h : exec C b (setv env i c') = m) : exec C (.seq (.seti i k e) b) env = m := by
  simp only [exec_seq, exec_seti, he, hc, hk, hs, bind_ret]; exact h
theorem xs_asgT {x : Tgt} {e : E} {b : S} {t : T} {env' : Env} {m : M R} (h : den C e env = .ret t) (h2 : bindT x t env = .ret env') (k : exec C b env' = m) : exec C (.seq (.asgT x e) b) env = m := by
  simp only [exec_seq, exec_asgT, h, h2, bind_ret]; exact k
theorem xs_app {i : Nat} {e : E} {b : S} {xs : List T} {v : T} {m : M R} (hc : getv env i = .ret (.lst xs)) (he : den C e env = .ret v) (hl : xs.length < lim) (k : exec C b (setv env i (.lst (xs ++ [v]))) = m) : exec C (.seq (.app i e) b) env = m := by
  simp only [exec_seq, exec_app, hc, he, bind_ret, appM, hl, if_true]; exact k
theorem xs_iteL {c : E} {a a' b : S} {x : Bool} {m : M R} (h : den C c env = .ret (.bl x)) (k : ((if x = true then exec C a env else exec C a' env).bind fun f => match f with
      | .nx e => exec C b e
      | .rt t => .ret (.rt t)
      | .bk e => .ret (.bk e)) = m) : exec C (.seq (.ite c a a') b) env = m := by
  simp only [exec_seq, exec_ite, h, bind_ret, asB_bl]
  exact k
/-- a loop, from prefix to prefix, whatever is drawn -/
theorem ws_forP {α : Type} {x : Tgt} {it : E} {bd b : S} {t : T} {Q : R → Prop} (inj : α → T) (xs : List α) (I : List α → Env → Prop) (h : den C it env = .ret t) (ht : itemsS t = .ret (xs.map inj)) (h0 : I [] env)
    (step : ∀ p y q e, p ++ y :: q = xs → I p e → W0 (bindT x (inj y) e) fun e1 => W0 (exec C bd e1) fun f => match f with
      | .nx e2 => I (p ++ [y]) e2
      | .bk _ => False
      | .rt t => Q (.rt t))
    (k : ∀ e, I xs e → W0 (exec C b e) Q) : W0 (exec C (.seq (.for_ x it bd) b) env) Q := by
  refine ws_for (fun r e => ∃ p q, r = q.map inj ∧ p ++ q = xs ∧ I p e) h ht ⟨[], xs, rfl, rfl, h0⟩ ?_ ?_
  · rintro y r e ⟨p, q, e1, e2, hi⟩
    cases q with
    | nil => cases e1
    | cons z q =>
      injection e1 with e3 e4
      subst e3; subst e4
      refine (step p z q e e2 hi).mono fun e1 he => he.mono fun f hf => ?_
      match f, hf with
      | .nx e5, hf => exact ⟨p ++ [z], q, rfl, by rw [← e2]; simp, hf⟩
      | .bk _, hf => exact hf.elim
      | .rt t, hf => exact hf
  · rintro e ⟨p, q, e1, e2, hi⟩
    have : q = [] := List.map_eq_nil_iff.mp e1.symm
    subst this
    rw [List.append_nil] at e2
    subst e2
    exact k e hi
/-- a comprehension of two -/
theorem compL_ext {α β : Type} {tgt : Tgt} {c : E} {el : Env → List T → M (List T)} {env0 : Env} (inj : α → T) (e : α → Env) (p : α → Bool) (f : α → List T) : ∀ (xs : List α) (acc : List T),
    (∀ x ∈ xs, bindT tgt (inj x) env0 = .ret (e x) ∧ den C c (e x) = .ret (.bl (p x))) →
    (∀ x ∈ xs, p x = true → ∀ acc : List T, acc.length + (f x).length ≤ lim → el (e x) acc = .ret (acc ++ f x)) →
    acc.length + ((xs.filter p).flatMap f).length ≤ lim →
    compL (bindT tgt) (den C c) el env0 (xs.map inj) acc = .ret (acc ++ (xs.filter p).flatMap f)
  | [], acc, _, _, _ => by simp [compL]
  | x :: xs, acc, h, h2, hl => by
    obtain ⟨a1, a2⟩ := h x (.head _)
    simp only [List.map_cons, compL, a1, a2, bind_ret, asB_bl]
    cases hp : p x with
    | false =>
      rw [List.filter_cons, hp] at hl ⊢
      simp only [Bool.false_eq_true, if_false, bind_ret] at hl ⊢
      exact compL_ext (β := β) inj e p f xs acc (fun y hy => h y (.tail _ hy)) (fun y hy => h2 y (.tail _ hy)) hl
    | true =>
      have e0 : (x :: xs).filter p = x :: xs.filter p := by rw [List.filter_cons, hp, if_pos rfl]
      rw [e0, List.flatMap_cons] at hl ⊢
      rw [List.length_append] at hl
      rw [if_pos rfl, h2 x (.head _) hp acc (by omega), bind_ret, compL_ext (β := β) inj e p f xs _ (fun y hy => h y (.tail _ hy)) (fun y hy => h2 y (.tail _ hy)) (by rw [List.length_append]; omega), List.append_assoc]
theorem lc2_evA {α β : Type} {x x1 : Tgt} {it c it1 c1 el : E} {own1 own : List Nat} {t : T} (inj : α → T) (xs : List α) (e : α → Env) (p : α → Bool) (inj1 : α → β → T) (ys : α → List β) (e1 : α → β → Env) (p1 : α → β → Bool) (f : α → β → T)
    (hit : den C it env = .ret t) (ht : itemsS t = .ret (xs.map inj)) (hl : ((xs.filter p).flatMap fun a => ((ys a).filter (p1 a)).map (f a)).length ≤ lim)
    (h : ∀ a ∈ xs, bindT x (inj a) (wipev env own) = .ret (e a) ∧ den C c (e a) = .ret (.bl (p a)))
    (h1 : ∀ a ∈ xs, p a = true → ∃ t1, den C it1 (e a) = .ret t1 ∧ itemsS t1 = .ret ((ys a).map (inj1 a)))
    (h2 : ∀ a ∈ xs, p a = true → ∀ b ∈ ys a, bindT x1 (inj1 a b) (wipev (e a) own1) = .ret (e1 a b) ∧ den C c1 (e1 a b) = .ret (.bl (p1 a b)) ∧ (p1 a b = true → den C el (e1 a b) = .ret (f a b))) :
    den C (.lc2 x it c x1 own1 it1 c1 own el) env = .ret (.lst ((xs.filter p).flatMap fun a => ((ys a).filter (p1 a)).map (f a))) := by
  show (den C it env).bind _ = _
  rw [hit, bind_ret, ht, bind_ret]
  rw [compL_ext (β := β) inj e p (fun a => ((ys a).filter (p1 a)).map (f a)) xs [] h (fun a ha hp acc hacc => ?_) (by simpa using hl)]
  · rfl
  · obtain ⟨t1, g1, g2⟩ := h1 a ha hp
    rw [g1, bind_ret, g2, bind_ret]
    have key : ∀ (ys : List β) (acc : List T), acc.length + ((ys.filter (p1 a)).map (f a)).length ≤ lim → (∀ b ∈ ys, bindT x1 (inj1 a b) (wipev (e a) own1) = .ret (e1 a b) ∧ den C c1 (e1 a b) = .ret (.bl (p1 a b)) ∧ (p1 a b = true → den C el (e1 a b) = .ret (f a b))) →
        compL (bindT x1) (den C c1) (fun e acc => (den C el e).bind fun v => push v acc) (wipev (e a) own1) (ys.map (inj1 a)) acc = .ret (acc ++ (ys.filter (p1 a)).map (f a)) := by
      intro ys
      induction ys with
      | nil => intro acc _ _; simp [compL]
      | cons b ys ih =>
        intro acc hl h
        obtain ⟨k1, k2, k3⟩ := h b (.head _)
        simp only [compL, k1, k2, bind_ret, asB_bl, List.map_cons]
        cases hp : p1 a b with
        | false =>
          rw [List.filter_cons, hp] at hl ⊢
          simp only [Bool.false_eq_true, if_false, bind_ret] at hl ⊢
          exact ih acc hl fun y hy => h y (.tail _ hy)
        | true =>
          have e0 : (b :: ys).filter (p1 a) = b :: ys.filter (p1 a) := by rw [List.filter_cons, hp, if_pos rfl]
          rw [e0, List.map_cons] at hl ⊢
          rw [List.length_cons] at hl
          rw [if_pos rfl, k3 hp, bind_ret, show push (f a b) acc = .ret (acc ++ [f a b]) from if_pos (by omega), bind_ret]
          rw [ih _ (by simp only [List.length_append, List.length_cons, List.length_nil]; omega) fun y hy => h y (.tail _ hy)]
          simp
    exact key (ys a) acc hacc (h2 a ha hp)
end
theorem gs_eq {t : T} : ∀ {e : Env} {i : Nat}, i < e.length → getv (setv e i t) i = .ret t
  | [], _, h => by simp at h
  | _ :: _, 0, _ => rfl
  | x :: r, i + 1, h => by rw [setv_succ, getv_succ]; exact gs_eq (by simpa using h)
theorem gs_ne {t : T} : ∀ {e : Env} {i j : Nat}, i ≠ j → getv (setv e i t) j = getv e j
  | [], _, _, _ => rfl
  | _ :: _, 0, 0, h => absurd rfl h
  | x :: r, 0, j + 1, _ => by rw [setv_zero, getv_succ, getv_succ]
  | x :: r, i + 1, 0, _ => by rw [setv_succ]; cases x <;> rfl
  | x :: r, i + 1, j + 1, h => by rw [setv_succ, getv_succ, getv_succ]; exact gs_ne fun z => h (by rw [z])
theorem gw_ne : ∀ {e : Env} {i j : Nat}, i ≠ j → getv (wipe1 e i) j = getv e j
  | [], _, _, _ => rfl
  | _ :: _, 0, 0, h => absurd rfl h
  | x :: r, 0, j + 1, _ => by rw [wipe1_zero, getv_succ, getv_succ]
  | x :: r, i + 1, 0, _ => by rw [wipe1_succ]; cases x <;> rfl
  | x :: r, i + 1, j + 1, h => by rw [wipe1_succ, getv_succ, getv_succ]; exact gw_ne fun z => h (by rw [z])
@[simp] theorem setv_len {t : T} : ∀ {e : Env} {i : Nat}, (setv e i t).length = e.length
  | [], _ => rfl
  | _ :: _, 0 => rfl
  | x :: r, i + 1 => by rw [setv_succ, List.length_cons, setv_len, List.length_cons]
@[simp] theorem wipe1_len : ∀ {e : Env} {i : Nat}, (wipe1 e i).length = e.length
  | [], _ => rfl
  | _ :: _, 0 => rfl
  | x :: r, i + 1 => by rw [wipe1_succ, List.length_cons, wipe1_len, List.length_cons]
section
variable {C : Cx} {env : Env}
theorem lc_wpW {tgt : Tgt} {it el : E} {own : List Nat} {Q : T → Prop} (R : T → T → Prop) (h : W0 (den C it env) fun t => ∃ xs, itemsS t = .ret xs ∧ xs.length ≤ lim ∧ (∀ x ∈ xs, W0 (bindT tgt x (wipev env own)) fun e => W0 (den C el e) (R x)) ∧
    ∀ ys : List T, ys.length = xs.length → (∀ (i : Nat) (x y : T), xs[i]? = some x → ys[i]? = some y → R x y) → Q (.lst ys)) :
    W0 (den C (.lc tgt it (.con (.bl true)) own el) env) Q := by
  show W0 ((den C it env).bind _) _
  refine w0_bind.mpr (h.mono fun t ⟨xs, ht, hl, hx, hq⟩ => ?_)
  rw [ht, bind_ret]
  refine w0_bind.mpr (w0_shut (compL_wp R xs [] _ (by simpa using hl) (fun x z => (hx x z).mono fun e he => w0_val ⟨rfl, he⟩) fun ys h1 h2 => ?_))
  exact w0_val (by simpa using hq ys h1 h2)
theorem w0_rng1E {a : E} {Q : T → Prop} (h : W0 (den C a env) fun t => ∃ n : Nat, t = .int (n : Int) ∧ n ≤ 16777216 ∧ Q (.lst ((List.range n).map fun i : Nat => .int (i : Int)))) : W0 (den C (.rng1 a) env) Q := by
  rw [den_rng1]
  refine w0_bind.mpr (h.mono fun t ⟨n, e, hn, q⟩ => ?_)
  subst e
  exact w0_ret (bind_of (asI_int _) (rngM_0 n hn)) q
end
/-- all items are as R says -/
theorem all_of {α : Type} (g : α → T) (P : α → Prop) {xs ys : List T} (hl : ys.length = xs.length) (h : ∀ (i : Nat) (x y : T), xs[i]? = some x → ys[i]? = some y → ∃ a, y = g a ∧ P a) : ∃ as : List α, ys = as.map g ∧ as.length = xs.length ∧ ∀ a ∈ as, P a := by
  induction ys generalizing xs with
  | nil => exact ⟨[], rfl, by simpa using hl, fun a h => by cases h⟩
  | cons y ys ih => cases xs with
    | nil => cases hl
    | cons x xs =>
      obtain ⟨a, rfl, ha⟩ := h 0 x y rfl rfl
      obtain ⟨as, rfl, h1, h2⟩ := ih (xs := xs) (by simpa using hl) fun i x y q r => h (i + 1) x y (by simpa using q) (by simpa using r)
      exact ⟨a :: as, rfl, by simp [h1], fun b hb => by
        rcases List.mem_cons.mp hb with rfl | hb
        · exact ha
        · exact h2 b hb⟩
abbrev k2 (i j : Int) : T := .tup [.int i, .int j]
def mk2 (v : Int → Int → T) (ps : List (Int × Int)) : List (T × T) := ps.map fun p => (k2 p.1 p.2, v p.1 p.2)
theorem eqT_k2 (a b c d : Int) : eqT (k2 a b) (k2 c d) = decide (a = c ∧ b = d) := by
  show eqL _ _ = _
  have : eqL [T.int a, .int b] [.int c, .int d] = (eqT (.int a) (.int c) && (eqT (.int b) (.int d) && true)) := rfl
  rw [this, eqT_int, eqT_int, Bool.and_true, ← Bool.decide_and]
theorem fits_mk2 (v : Int → Int → T) (ps : List (Int × Int)) (i j : Int) : fits (mk2 v ps) (k2 i j) = true := by
  unfold fits
  rw [show keyOk (k2 i j) = true from rfl, Bool.true_and, List.all_eq_true]
  intro p hp
  obtain ⟨q, _, rfl⟩ := List.mem_map.mp hp
  rfl
theorem dget_mk2 (v : Int → Int → T) : ∀ (ps : List (Int × Int)) (i j : Int), (i, j) ∈ ps → dget (mk2 v ps) (k2 i j) = some (v i j)
  | p :: ps, i, j, h => by
    unfold dget mk2
    rw [List.map_cons, List.find?_cons, eqT_k2]
    by_cases e : p.1 = i ∧ p.2 = j
    · rw [decide_eq_true e]
      obtain ⟨rfl, rfl⟩ := e
      rfl
    · rw [decide_eq_false e]
      have : (i, j) ∈ ps := by
        rcases List.mem_cons.mp h with z | z
        · exact absurd ⟨by rw [← z], by rw [← z]⟩ e
        · exact z
      exact dget_mk2 v ps i j this
theorem idx_mk2 {v : Int → Int → T} {ps : List (Int × Int)} {i j : Int} (h : (i, j) ∈ ps) : idxM (.dct (mk2 v ps)) (k2 i j) = .ret (v i j) := by
  show (if fits (mk2 v ps) (k2 i j) = true then (match dget (mk2 v ps) (k2 i j) with | some v => M.ret v | none => .stuck) else .stuck) = _
  rw [if_pos (fits_mk2 v ps i j), dget_mk2 v ps i j h]
theorem any_mk2 (v : Int → Int → T) (ps : List (Int × Int)) (i j : Int) : ((mk2 v ps).any fun p => eqT p.1 (k2 i j)) = decide ((i, j) ∈ ps) := by
  rw [Bool.eq_iff_iff, List.any_eq_true, decide_eq_true_eq]
  constructor
  · rintro ⟨p, hp, h⟩
    obtain ⟨q, hq, rfl⟩ := List.mem_map.mp hp
    have h := (eqT_k2 _ _ _ _).symm.trans h
    have h := of_decide_eq_true h
    obtain ⟨rfl, rfl⟩ := h
    exact hq
  · intro h
    exact ⟨_, List.mem_map.mpr ⟨_, h, rfl⟩, (eqT_k2 _ _ _ _).trans (decide_eq_true ⟨rfl, rfl⟩)⟩
theorem set_mk2 {v : Int → Int → T} {ps : List (Int × Int)} {i j : Int} (h : ps.length < lim) : ∃ qs, setI (.dct (mk2 v ps)) (k2 i j) (v i j) = .ret (.dct (mk2 v qs)) ∧ qs.length ≤ ps.length + 1 ∧ (∀ x, x ∈ qs ↔ x ∈ ps ∨ x = (i, j)) := by
  have e : setI (.dct (mk2 v ps)) (k2 i j) (v i j) = .ret (.dct (dput (mk2 v ps) (k2 i j) (v i j))) := by
    show (if (fits (mk2 v ps) (k2 i j) && decide ((mk2 v ps).length < lim)) = true then M.ret (T.dct (dput (mk2 v ps) (k2 i j) (v i j))) else .stuck) = _
    rw [fits_mk2, decide_eq_true (by unfold mk2; rw [List.length_map]; exact h)]; rfl
  rw [e]
  unfold dput
  rw [any_mk2]
  by_cases m : (i, j) ∈ ps
  · refine ⟨ps, ?_, by omega, fun x => ⟨.inl, fun z => z.elim id fun z => z ▸ m⟩⟩
    rw [if_pos (decide_eq_true m)]
    congr 2
    unfold mk2
    rw [List.map_map]
    refine List.map_congr_left fun p _ => ?_
    show (if eqT (k2 p.1 p.2) (k2 i j) = true then (k2 p.1 p.2, v i j) else (k2 p.1 p.2, v p.1 p.2)) = _
    rw [eqT_k2]
    by_cases z : p.1 = i ∧ p.2 = j
    · rw [if_pos (decide_eq_true z), z.1, z.2]
    · rw [if_neg (by simpa using z)]
  · refine ⟨ps ++ [(i, j)], ?_, by simp, fun x => by simp⟩
    rw [if_neg (by simpa using m)]
    unfold mk2
    rw [List.map_append]; rfl
def minK {α : Type} (k : α → List Int) (x : α) (xs : List α) : α := xs.foldl (fun a y => if ltI (k y) (k a) then y else a) x
theorem minL_key {α : Type} (g : α → T) (k : α → List Int) (h : ∀ a b, ltT (g a) (g b) = ltI (k a) (k b)) : ∀ (xs : List α) (x : α), minL (g x) (xs.map g) = g (minK k x xs)
  | [], _ => rfl
  | y :: xs, x => by
    show minL (if ltT (g y) (g x) then g y else g x) (xs.map g) = g (minK k (if ltI (k y) (k x) then y else x) xs)
    rw [h, ← minL_key g k h xs]
    cases ltI (k y) (k x) <;> rfl
theorem minK_spec {α : Type} (k : α → List Int) : ∀ (xs : List α) (x : α), minK k x xs ∈ x :: xs ∧ ∀ y ∈ x :: xs, ltI (k y) (k (minK k x xs)) = false
  | [], x => ⟨.head _, fun y h => by rw [List.mem_singleton.mp h]; exact ltI_irr _⟩
  | z :: xs, x => by
    show minK k (if ltI (k z) (k x) then z else x) xs ∈ _ ∧ ∀ y ∈ _, ltI (k y) (k (minK k (if ltI (k z) (k x) then z else x) xs)) = false
    have le : ∀ {a b c : List Int}, ltI a b = false → ltI b c = false → ltI a c = false := fun {y a m} h1 h2 => by
      cases q : ltI y m with
      | false => rfl
      | true =>
        cases z : ltI a y with
        | true => rw [ltI_trans a y m z q] at h2; cases h2
        | false =>
          have := ltI_tot y a h1 z
          subst this
          rw [q] at h2; cases h2
    have asym : ∀ {a b : List Int}, ltI a b = true → ltI b a = false := fun {a b} h => by
      cases q : ltI b a with
      | false => rfl
      | true => have := ltI_trans a b a h q; rw [ltI_irr] at this; cases this
    cases e : ltI (k z) (k x) with
    | true =>
      obtain ⟨h1, h2⟩ := minK_spec k xs z
      simp only [if_true]
      refine ⟨List.mem_cons_of_mem _ h1, fun y hy => ?_⟩
      rcases List.mem_cons.mp hy with rfl | hy
      · exact le (asym e) (h2 z (.head _))
      · exact h2 y hy
    | false =>
      obtain ⟨h1, h2⟩ := minK_spec k xs x
      simp only [Bool.false_eq_true, if_false]
      refine ⟨?_, fun y hy => ?_⟩
      · rcases List.mem_cons.mp h1 with h | h
        · rw [h]; exact .head _
        · exact .tail _ (.tail _ h)
      · rcases List.mem_cons.mp hy with rfl | hy
        · exact h2 y (.head _)
        · rcases List.mem_cons.mp hy with rfl | hy
          · exact le e (h2 x (.head _))
          · exact h2 y (.tail _ hy)
end Py

set_option linter.all false
set_option autoImplicit false
set_option maxRecDepth 100000
namespace Py
abbrev zN (l : List Nat) : List T := l.map fun n : Nat => T.int (n : Int)
theorem zN_map {α : Type} (f : α → Nat) (l : List α) : zN (l.map f) = l.map fun x => T.int (f x : Int) := by
  rw [zN, List.map_map]; rfl
theorem zN_app (a b : List Nat) : zN (a ++ b) = zN a ++ zN b := by rw [zN, List.map_append]
theorem zN_len (a : List Nat) : (zN a).length = a.length := by rw [zN, List.length_map]
theorem prefix_range {p q : List Nat} {y n : Nat} (h : p ++ y :: q = List.range n) : y = p.length ∧ p.length < n := by
  have hl := congrArg List.length h
  rw [List.length_append, List.length_range, List.length_cons] at hl
  have hp : p.length < n := by omega
  have := congrArg (fun l => l[p.length]?) h
  simp only [List.getElem?_append_right (Nat.le_refl _), Nat.sub_self, List.getElem?_cons_zero, List.getElem?_range hp] at this
  exact ⟨Option.some.inj this, hp⟩
theorem prefix_take {α : Type} {p q xs : List α} {y : α} (h : p ++ y :: q = xs) : p = xs.take p.length ∧ xs[p.length]? = some y ∧ p.length < xs.length := by
  subst h
  refine ⟨by simp, ?_, by simp⟩
  rw [List.getElem?_append_right (Nat.le_refl _), Nat.sub_self]; rfl
theorem rep1 {α : Type} (x : α) : ∀ k : Nat, (List.replicate k [x]).flatten = List.replicate k x
  | 0 => rfl
  | k + 1 => by rw [List.replicate_succ, List.flatten_cons, rep1 x k, List.replicate_succ]; rfl
theorem mul_tupG {xs : List T} {k : Nat} (h0 : xs ≠ []) (h1 : xs.length ≤ 1000) (h2 : k ≤ 1000) : opM .mul (.tup xs) (.int (k : Int)) = .ret (.tup (List.replicate k xs).flatten) := by
  show (if (k : Int) = 1 then M.ret (T.tup xs) else if (k : Int) = 0 then .ret (.tup []) else if 2 ≤ (k : Int) ∧ (k : Int) ≤ 1000 ∧ xs.length ≤ 1000 ∧ xs ≠ [] then M.ret (T.tup (List.replicate (k : Int).toNat xs).flatten) else .stuck) = _
  by_cases e : k = 1
  · subst e
    rw [if_pos (show ((1 : Nat) : Int) = 1 from rfl)]; simp
  · rw [if_neg (by omega)]
    by_cases e0 : k = 0
    · subst e0
      rw [if_pos (show ((0 : Nat) : Int) = 0 from rfl)]; rfl
    · rw [if_neg (by omega), if_pos ⟨by omega, by omega, h1, h0⟩, Int.toNat_natCast]
theorem mul_one {x : T} {k : Nat} (h2 : k ≤ 1000) : opM .mul (.tup [x]) (.int (k : Int)) = .ret (.tup (List.replicate k x)) := by
  rw [mul_tupG (by simp) (by show 1 ≤ 1000; decide) h2, rep1]
theorem any_map {α : Type} (p : α → Bool) (xs : List α) : biM .any [.lst (xs.map fun x => T.bl (p x))] = .ret (.bl (xs.any p)) := by
  have bools_map : ∀ xs : List α, bools (xs.map fun x => T.bl (p x)) = some (xs.map p) := by
    intro xs
    induction xs with
    | nil => rfl
    | cons x xs ih => show (bools (xs.map fun x => T.bl (p x))).map (p x :: ·) = _; rw [ih]; rfl
  show (match bools (xs.map fun x => T.bl (p x)) with | some bs => M.ret (T.bl (bs.any id)) | none => .stuck) = _
  rw [bools_map]
  simp [List.any_map]
theorem cgt_int' (i j : Int) : cmpM .gt (.int i) (.int j) = .ret (.bl (decide (j < i))) := by
  have e : ordM (.int i) (.int j) = .ret (if i < j then .lt else if j < i then .gt else .eq) := rfl
  simp only [cmpM, e, bind_ret]
  by_cases h : i < j
  · have : ¬ j < i := by omega
    simp [h, this]
  · by_cases g : j < i
    · simp [h, g]
    · simp [h, g]
theorem cge_int (i j : Int) : cmpM .ge (.int i) (.int j) = .ret (.bl (decide (j ≤ i))) := by
  have e : ordM (.int i) (.int j) = .ret (if i < j then .lt else if j < i then .gt else .eq) := rfl
  simp only [cmpM, e, bind_ret]
  by_cases h : i < j
  · have : ¬ j ≤ i := by omega
    simp [h, this]
  · have : j ≤ i := by omega
    by_cases g : j < i
    · simp [h, g, this]
    · simp [h, g, this]
def maxZ (m : Int) (xs : List Int) : Int := xs.foldl (fun a y => if a < y then y else a) m
theorem maxL_int : ∀ (xs : List Int) (m : Int), maxL (.int m) (xs.map T.int) = .int (maxZ m xs)
  | [], _ => rfl
  | x :: xs, m => by
    show maxL (if decide (m < x) = true then T.int x else T.int m) (xs.map T.int) = .int (maxZ (if m < x then x else m) xs)
    rw [← maxL_int xs]
    by_cases e : m < x <;> simp [e]
theorem maxZ_spec : ∀ (xs : List Int) (m : Int), maxZ m xs ∈ m :: xs ∧ ∀ y ∈ m :: xs, y ≤ maxZ m xs
  | [], m => ⟨.head _, fun y h => by rw [List.mem_singleton.mp h]; exact Int.le_refl _⟩
  | x :: xs, m => by
    show maxZ (if m < x then x else m) xs ∈ _ ∧ ∀ y ∈ _, y ≤ maxZ (if m < x then x else m) xs
    by_cases e : m < x
    · rw [if_pos e]
      obtain ⟨h1, h2⟩ := maxZ_spec xs x
      refine ⟨List.mem_cons_of_mem _ h1, fun y hy => ?_⟩
      rcases List.mem_cons.mp hy with rfl | hy
      · have := h2 x (.head _); omega
      · exact h2 y hy
    · rw [if_neg e]
      obtain ⟨h1, h2⟩ := maxZ_spec xs m
      refine ⟨?_, fun y hy => ?_⟩
      · rcases List.mem_cons.mp h1 with h | h
        · rw [h]; exact .head _
        · exact .tail _ (.tail _ h)
      · rcases List.mem_cons.mp hy with rfl | hy
        · exact h2 y (.head _)
        · rcases List.mem_cons.mp hy with rfl | hy
          · have := h2 m (.head _); omega
          · exact h2 y (.tail _ hy)
/-- the greatest of some integers -/
theorem max_ex {xs : List Int} (h : xs ≠ []) : ∃ m ∈ xs, biM .max [.lst (xs.map T.int)] = .ret (.int m) ∧ ∀ y ∈ xs, y ≤ m := by
  match xs, h with
  | x :: r, _ =>
    have e := cmpAll_int (x :: r)
    obtain ⟨h1, h2⟩ := maxZ_spec r x
    refine ⟨_, h1, ?_, h2⟩
    show (if cmpAll ((x :: r).map T.int) = true then M.ret (maxL (.int x) (r.map T.int)) else .stuck) = _
    rw [if_pos e, maxL_int]
theorem max_exN {xs : List Nat} (h : xs ≠ []) : ∃ m ∈ xs, biM .max [.lst (zN xs)] = .ret (.int (m : Int)) ∧ ∀ y ∈ xs, y ≤ m := by
  obtain ⟨m, h1, h2, h3⟩ := max_ex (xs := xs.map fun n : Nat => (n : Int)) (by simpa using h)
  obtain ⟨k, hk, rfl⟩ := List.mem_map.mp h1
  refine ⟨k, hk, by rw [← h2, List.map_map]; rfl, fun y hy => ?_⟩
  have := h3 _ (List.mem_map.mpr ⟨y, hy, rfl⟩)
  omega
theorem min_exN {xs : List Nat} {m : Nat} (h : m ∈ xs) (hl : ∀ y ∈ xs, m ≤ y) : biM .min [.lst (zN xs)] = .ret (.int (m : Int)) := by
  have := min_int (xs := xs.map fun n : Nat => (n : Int)) (m := (m : Int)) (List.mem_map.mpr ⟨m, h, rfl⟩) (fun y hy => by
    obtain ⟨k, hk, rfl⟩ := List.mem_map.mp hy
    have := hl k hk; omega)
  rw [List.map_map] at this
  exact this
theorem at_zN {l : List Nat} {i : Nat} (h : i < l.length) : atT (zN l) (i : Int) = .ret (.int ((l.getD i 0 : Nat) : Int)) := by
  refine atT_ok rfl ?_
  rw [List.getElem?_map, List.getElem?_eq_getElem h, List.getD_eq_getElem?_getD, List.getElem?_eq_getElem h]; rfl
theorem plainL_zN : ∀ l : List Nat, plainL (zN l) = true
  | [] => rfl
  | _ :: r => plainL_zN r
theorem goodL_zN : ∀ l : List Nat, goodL (zN l) = true
  | [] => rfl
  | _ :: r => goodL_zN r
theorem depL_zN : ∀ l : List Nat, depL (zN l) = 0
  | [] => rfl
  | _ :: r => by show max 0 (depL (zN r)) = 0; rw [depL_zN r]; rfl
/-- against an empty list, an empty tuple -/
theorem cnel {xs : List T} (h : plainL xs = true) : cmpM .ne (.lst xs) (.lst []) = .ret (.bl (!xs.isEmpty)) := by
  have e : eqM (.lst xs) (.lst []) = .ret xs.isEmpty := by
    unfold eqM eqOk
    have h1 : plain (.lst xs) = true := h
    have h2 : eqT (.lst xs) (.lst []) = xs.isEmpty := by cases xs <;> rfl
    have h3 : decide (min (dep (.lst xs)) (dep (.lst [])) ≤ 60) = true := decide_eq_true (by show min _ 1 ≤ 60; omega)
    rw [h1, h2, h3]; rfl
  show (eqM (.lst xs) (.lst [])).bind _ = _
  rw [e]; rfl
theorem ceql {xs : List T} (h : plainL xs = true) : cmpM .eq (.lst xs) (.lst []) = .ret (.bl xs.isEmpty) := by
  have e : eqM (.lst xs) (.lst []) = .ret xs.isEmpty := by
    unfold eqM eqOk
    have h1 : plain (.lst xs) = true := h
    have h2 : eqT (.lst xs) (.lst []) = xs.isEmpty := by cases xs <;> rfl
    have h3 : decide (min (dep (.lst xs)) (dep (.lst [])) ≤ 60) = true := decide_eq_true (by show min _ 1 ≤ 60; omega)
    rw [h1, h2, h3]; rfl
  show (eqM (.lst xs) (.lst [])).bind _ = _
  rw [e]; rfl
theorem cnet {xs : List T} (h : plainL xs = true) : cmpM .ne (.tup xs) (.tup []) = .ret (.bl (!xs.isEmpty)) := by
  have e : eqM (.tup xs) (.tup []) = .ret xs.isEmpty := by
    unfold eqM eqOk
    have h1 : plain (.tup xs) = true := h
    have h2 : eqT (.tup xs) (.tup []) = xs.isEmpty := by cases xs <;> rfl
    have h3 : decide (min (dep (.tup xs)) (dep (.tup [])) ≤ 60) = true := decide_eq_true (by show min _ 1 ≤ 60; omega)
    rw [h1, h2, h3]; rfl
  show (eqM (.tup xs) (.tup [])).bind _ = _
  rw [e]; rfl
section
variable {C : Cx} {env : Env}
theorem d_call4 {f : Nat} {a b c d : E} {x y z u : T} {m : M T} (h : den C a env = .ret x) (h2 : den C b env = .ret y) (h3 : den C c env = .ret z) (h4 : den C d env = .ret u) (k : C.call f [x, y, z, u] = m) : den C (.call f (.cons a (.cons b (.cons c (.cons d .nil))))) env = m := by
  simp only [den_call, den_cons, den_nil, h, h2, h3, h4, bind_ret, consT_tup, argsOf_tup, k]
/-- a loop that gives t0 at the first item of which q does not hold -/
theorem forL_all {α : Type} {tgt : T → Env → M Env} {body : Env → M R} (inj : α → T) (q : α → Bool) (t0 : T) (I : List α → Env → Prop) : ∀ (post pre : List α) (env : Env), I pre env →
    (∀ p x r e, p ++ x :: r = pre ++ post → I p e → ∃ e1, tgt (inj x) e = .ret e1 ∧ (q x = true → ∃ e2, body e1 = .ret (.nx e2) ∧ I (p ++ [x]) e2) ∧ (q x = false → body e1 = .ret (.rt t0))) →
    (post.all q = true → ∃ env', forL tgt body (post.map inj) env = .ret (.nx env') ∧ I (pre ++ post) env') ∧ (post.all q = false → forL tgt body (post.map inj) env = .ret (.rt t0))
  | [], pre, env, h, _ => ⟨fun _ => ⟨env, rfl, by rwa [List.append_nil]⟩, fun z => by cases z⟩
  | x :: post, pre, env, h, step => by
    obtain ⟨e1, h1, h2, h3⟩ := step pre x post env rfl h
    cases hq : q x with
    | true =>
      obtain ⟨e2, g1, g2⟩ := h2 hq
      obtain ⟨k1, k2⟩ := forL_all (tgt := tgt) (body := body) inj q t0 I post (pre ++ [x]) e2 g2 (fun p y r e z => step p y r e (by rw [z]; simp))
      refine ⟨fun z => ?_, fun z => ?_⟩
      · rw [List.all_cons, hq, Bool.true_and] at z
        obtain ⟨e3, g3, g4⟩ := k1 z
        refine ⟨e3, ?_, by simpa using g4⟩
        simp only [List.map_cons, forL, h1, g1, bind_ret]
        exact g3
      · rw [List.all_cons, hq, Bool.true_and] at z
        simp only [List.map_cons, forL, h1, g1, bind_ret]
        exact k2 z
    | false =>
      refine ⟨fun z => ?_, fun _ => ?_⟩
      · rw [List.all_cons, hq] at z; cases z
      · simp only [List.map_cons, forL, h1, h3 hq, bind_ret]
theorem xs_forAll {α : Type} {x : Tgt} {it : E} {bd b : S} {t : T} {m : M R} (inj : α → T) (xs : List α) (q : α → Bool) (t0 : T) (I : List α → Env → Prop) (h : den C it env = .ret t) (ht : itemsS t = .ret (xs.map inj)) (h0 : I [] env)
    (step : ∀ p y r e, p ++ y :: r = xs → I p e → ∃ e1, bindT x (inj y) e = .ret e1 ∧ (q y = true → ∃ e2, exec C bd e1 = .ret (.nx e2) ∧ I (p ++ [y]) e2) ∧ (q y = false → exec C bd e1 = .ret (.rt t0)))
    (k : xs.all q = true → ∀ e, I xs e → exec C b e = m) (k2 : xs.all q = false → m = .ret (.rt t0)) : exec C (.seq (.for_ x it bd) b) env = m := by
  obtain ⟨h1, h2⟩ := forL_all (tgt := bindT x) (body := exec C bd) inj q t0 I xs [] env h0 (fun p y r e z => step p y r e z)
  cases hq : xs.all q with
  | true =>
    obtain ⟨e', g1, g2⟩ := h1 hq
    simp only [exec_seq, exec_for, h, ht, bind_ret, g1]
    exact k hq e' g2
  | false =>
    simp only [exec_seq, exec_for, h, ht, bind_ret, h2 hq, k2 hq]
theorem xs_forAllL {α : Type} {x : Tgt} {it : E} {bd : S} {t : T} (inj : α → T) (xs : List α) (q : α → Bool) (t0 : T) (I : List α → Env → Prop) (h : den C it env = .ret t) (ht : itemsS t = .ret (xs.map inj)) (h0 : I [] env)
    (step : ∀ p y r e, p ++ y :: r = xs → I p e → ∃ e1, bindT x (inj y) e = .ret e1 ∧ (q y = true → ∃ e2, exec C bd e1 = .ret (.nx e2) ∧ I (p ++ [y]) e2) ∧ (q y = false → exec C bd e1 = .ret (.rt t0))) :
    (xs.all q = true → ∃ e', exec C (.seq (.for_ x it bd) .skip) env = .ret (.nx e') ∧ I xs e') ∧ (xs.all q = false → exec C (.seq (.for_ x it bd) .skip) env = .ret (.rt t0)) := by
  obtain ⟨h1, h2⟩ := forL_all (tgt := bindT x) (body := exec C bd) inj q t0 I xs [] env h0 (fun p y r e z => step p y r e z)
  refine ⟨fun hq => ?_, fun hq => ?_⟩
  · obtain ⟨e', g1, g2⟩ := h1 hq
    exact ⟨e', by simp only [exec_seq, exec_for, h, ht, bind_ret, g1, exec_skip], g2⟩
  · simp only [exec_seq, exec_for, h, ht, bind_ret, h2 hq]
theorem d_enumT {a : E} {xs : List T} (h : den C a env = .ret (.tup xs)) : den C (.enum a) env = .ret (.lst (enumL 0 xs)) := by
  simp only [den_enum, h, bind_ret, enumM]
theorem xs_then {c : E} {a a' b : S} {e' : Env} {m : M R} (h : den C c env = .ret (.bl true)) (ha : exec C a env = .ret (.nx e')) (k : exec C b e' = m) : exec C (.seq (.ite c a a') b) env = m := by
  simp only [exec_seq, exec_ite, h, bind_ret, asB_bl, if_true, ha]; exact k
theorem xs_else {c : E} {a a' b : S} {e' : Env} {m : M R} (h : den C c env = .ret (.bl false)) (ha : exec C a' env = .ret (.nx e')) (k : exec C b e' = m) : exec C (.seq (.ite c a a') b) env = m := by
  simp only [exec_seq, exec_ite, h, bind_ret, asB_bl, Bool.false_eq_true, if_false, ha]; exact k
theorem xs_parL {xs : List Nat} {es : E} {ts : List T} {env' : Env} (h : den C es env = .ret (.tup ts)) (h2 : putAll xs ts env = .ret env') : exec C (.seq (.par xs es) .skip) env = .ret (.nx env') := xs_par h h2 rfl
theorem d_rngs {b : Bool} {a : E} {t : T} {xs : List T} (h : den C a env = .ret t) (ht : itemsS t = .ret xs) : den C (.rngs b a) env = .ret (if b then .tup xs else .lst xs) := by
  show (den C a env).bind _ = _
  rw [h, bind_ret, ht, bind_ret]
  cases b <;> rfl
theorem w0_rollEW {c n : E} {Q : T → Prop} (hc : den C c env = .ret .cup) (h : W0 (den C n env) fun y => ∃ k : Int, y = .int k ∧ 0 < k ∧ k < 1073741824 ∧ ∀ i : Int, 0 ≤ i → i < k → Q (.int i)) : W0 (den C (.roll c n) env) Q := by
  rw [den_roll, hc, bind_ret]
  refine w0_bind.mpr (h.mono fun y ⟨k, e, h0, h1, hq⟩ => ?_)
  subst e
  exact w0_draw h0 h1 fun i a b => w0_val (hq i a b)
end
end Py

set_option linter.all false
set_option autoImplicit false
set_option maxRecDepth 100000
namespace Py
theorem setv_setv {a b : T} : ∀ {e : Env} {i : Nat}, setv (setv e i a) i b = setv e i b
  | [], _ => rfl
  | _ :: _, 0 => rfl
  | x :: r, i + 1 => by rw [setv_succ, setv_succ, setv_succ, setv_setv]
theorem setv_same {t : T} : ∀ {e : Env} {i : Nat}, getv e i = .ret t → setv e i t = e
  | [], _, h => by cases h
  | none :: _, 0, h => by cases h
  | some u :: r, 0, h => by
    have : u = t := by injection h
    rw [this]; rfl
  | x :: r, i + 1, h => by
    rw [getv_succ] at h
    rw [setv_succ, setv_same h]
theorem sumL_zN : ∀ l : List Nat, sumL (zN l) = some ((l.sum : Nat) : Int)
  | [] => rfl
  | x :: l => by
    show (sumL (zN l)).map ((x : Int) + ·) = _
    rw [sumL_zN l]
    show some ((x : Int) + ((l.sum : Nat) : Int)) = _
    rw [List.sum_cons, Int.natCast_add]
theorem sum_lst (l : List Nat) : biM .sum [.lst (zN l)] = .ret (.int ((l.sum : Nat) : Int)) := by
  show (match sumL (zN l) with | some n => M.ret (T.int n) | none => .stuck) = _
  rw [sumL_zN]
theorem zipL_map {α β : Type} (f : α → T) (g : β → T) : ∀ (xs : List α) (ys : List β), zipL (xs.map f) (ys.map g) = (xs.zip ys).map fun p => T.tup [f p.1, g p.2]
  | [], _ => rfl
  | _ :: _, [] => rfl
  | x :: xs, y :: ys => by
    show T.tup [f x, g y] :: zipL (xs.map f) (ys.map g) = _
    rw [zipL_map f g xs ys]; rfl
def insK {α : Type} (k : α → List Int) (x : α) : List α → List α
  | [] => [x]
  | y :: r => if ltI (k y) (k x) then y :: insK k x r else x :: y :: r
def sortK {α : Type} (k : α → List Int) : List α → List α
  | [] => []
  | x :: xs => insK k x (sortK k xs)
theorem insT_key {α : Type} (g : α → T) (k : α → List Int) (h : ∀ a b, ltT (g a) (g b) = ltI (k a) (k b)) (x : α) : ∀ l : List α, insT (g x) (l.map g) = (insK k x l).map g
  | [] => rfl
  | y :: r => by
    show (if ltT (g y) (g x) then g y :: insT (g x) (r.map g) else g x :: g y :: r.map g) = (if ltI (k y) (k x) then y :: insK k x r else x :: y :: r).map g
    rw [h, insT_key g k h x r]
    cases ltI (k y) (k x) <;> rfl
theorem sortT_key {α : Type} (g : α → T) (k : α → List Int) (h : ∀ a b, ltT (g a) (g b) = ltI (k a) (k b)) : ∀ l : List α, sortT (l.map g) = (sortK k l).map g
  | [] => rfl
  | x :: l => by
    show insT (g x) (sortT (l.map g)) = _
    rw [sortT_key g k h l, insT_key g k h]; rfl
theorem insK_ne {α : Type} (k : α → List Int) (x : α) (l : List α) : insK k x l ≠ [] := by
  cases l with
  | nil => exact fun z => nomatch z
  | cons y r => unfold insK; split <;> exact fun z => nomatch z
theorem insK_perm {α : Type} (k : α → List Int) (x : α) : ∀ l : List α, (insK k x l).Perm (x :: l)
  | [] => .refl _
  | y :: r => by
    unfold insK
    split
    · exact (List.Perm.cons y (insK_perm k x r)).trans (List.Perm.swap x y r)
    · exact .refl _
theorem sortK_perm {α : Type} (k : α → List Int) : ∀ l : List α, (sortK k l).Perm l
  | [] => .refl _
  | x :: l => (insK_perm k x _).trans (List.Perm.cons x (sortK_perm k l))
theorem ltI_le' {a b c : List Int} (h1 : ltI a b = false) (h2 : ltI b c = false) : ltI a c = false := by
  cases q : ltI a c with
  | false => rfl
  | true =>
    cases z : ltI b a with
    | true => rw [ltI_trans b a c z q] at h2; cases h2
    | false =>
      have := ltI_tot a b h1 z
      rw [this, h2] at q; cases q
theorem ltI_asym {a b : List Int} (h : ltI a b = true) : ltI b a = false := by
  cases q : ltI b a with
  | false => rfl
  | true => have := ltI_trans a b a h q; rw [ltI_irr] at this; cases this
/-- each is not less than the ones ahead -/
def SortedK {α : Type} (k : α → List Int) : List α → Prop
  | [] => True
  | x :: l => (∀ y ∈ l, ltI (k y) (k x) = false) ∧ SortedK k l
theorem insK_sorted {α : Type} (k : α → List Int) (x : α) : ∀ l : List α, SortedK k l → SortedK k (insK k x l)
  | [], _ => ⟨fun y h => (by cases h), trivial⟩
  | y :: r, h => by
    unfold insK
    cases e : ltI (k y) (k x) with
    | true =>
      rw [if_pos rfl]
      refine ⟨fun z hz => ?_, insK_sorted k x r h.2⟩
      rcases List.mem_cons.mp ((insK_perm k x r).mem_iff.mp hz) with rfl | hz
      · exact ltI_asym e
      · exact h.1 z hz
    | false =>
      rw [if_neg (by simp)]
      refine ⟨fun z hz => ?_, h⟩
      rcases List.mem_cons.mp hz with rfl | hz
      · exact e
      · exact ltI_le' (h.1 z hz) e
theorem sortK_sorted {α : Type} (k : α → List Int) : ∀ l : List α, SortedK k (sortK k l)
  | [] => trivial
  | x :: l => insK_sorted k x _ (sortK_sorted k l)
/-- the first of a sorted list is the least -/
theorem sortK_head {α : Type} (k : α → List Int) (inj : ∀ a b, k a = k b → a = b) {l : List α} {m : α} (hm : m ∈ l) (hl : ∀ y ∈ l, ltI (k y) (k m) = false) : (sortK k l)[0]? = some m := by
  have p := sortK_perm k l
  have s := sortK_sorted k l
  cases e : sortK k l with
  | nil =>
    rw [e] at p
    have := p.mem_iff.mpr hm
    cases this
  | cons x r =>
    rw [e] at p s
    have hx : x ∈ l := p.mem_iff.mp (.head _)
    have h1 : ltI (k m) (k x) = false := by
      rcases List.mem_cons.mp (p.mem_iff.mpr hm) with z | z
      · rw [z]; exact ltI_irr _
      · exact s.1 m z
    rw [inj x m (ltI_tot _ _ (hl x hx) h1)]; rfl
end Py

set_option linter.all false
set_option autoImplicit false
set_option maxRecDepth 100000
namespace Py
theorem ordL_int : ∀ a b : List Int, ordL (a.map T.int) (b.map T.int) = some (if ltI a b then .lt else if ltI b a then .gt else .eq)
  | [], [] => rfl
  | [], _ :: _ => rfl
  | _ :: _, [] => rfl
  | x :: xs, y :: ys => by
    show (match ordL (xs.map T.int) (ys.map T.int) with | some o => if eqT (.int x) (.int y) then some o else ordT (.int x) (.int y) | none => none) = _
    rw [ordL_int xs ys, eqT_int]
    by_cases e : x = y
    · subst e; simp [ltI]
    · have e' : ¬ y = x := fun z => e z.symm
      simp only [e, e', ltI, decide_false, Bool.false_eq_true, if_false, decide_eq_true_eq]
      rfl
theorem ordM_tI (a b : List Int) : ordM (tI a) (tI b) = .ret (if ltI a b then .lt else if ltI b a then .gt else .eq) := by
  unfold ordM eqOk
  rw [plain_tI, plain_tI, dep_tI, dep_tI]
  show (match ordL (a.map T.int) (b.map T.int) with | some o => M.ret o | none => .stuck) = _
  rw [ordL_int]
theorem clt_tI (a b : List Int) : cmpM .lt (tI a) (tI b) = .ret (.bl (ltI a b)) := by
  show (ordM (tI a) (tI b)).bind _ = _
  rw [ordM_tI, bind_ret]
  cases ltI a b <;> cases ltI b a <;> rfl
theorem cge_tI (a b : List Int) : cmpM .ge (tI a) (tI b) = .ret (.bl (!ltI a b)) := by
  show (ordM (tI a) (tI b)).bind _ = _
  rw [ordM_tI, bind_ret]
  cases ltI a b <;> cases ltI b a <;> rfl
theorem cle_tI (a b : List Int) : cmpM .le (tI a) (tI b) = .ret (.bl (!ltI b a)) := by
  show (ordM (tI a) (tI b)).bind _ = _
  rw [ordM_tI, bind_ret]
  cases e : ltI a b <;> cases f : ltI b a
  · rfl
  · rfl
  · rfl
  · rw [ltI_asym e] at f; cases f
theorem ceqt {xs : List T} (h : plainL xs = true) : cmpM .eq (.tup xs) (.tup []) = .ret (.bl xs.isEmpty) := by
  have e : eqM (.tup xs) (.tup []) = .ret xs.isEmpty := by
    unfold eqM eqOk
    have h1 : plain (.tup xs) = true := h
    have h2 : eqT (.tup xs) (.tup []) = xs.isEmpty := by cases xs <;> rfl
    have h3 : decide (min (dep (.tup xs)) (dep (.tup [])) ≤ 60) = true := decide_eq_true (by show min _ 1 ≤ 60; omega)
    rw [h1, h2, h3]; rfl
  show (eqM (.tup xs) (.tup [])).bind _ = _
  rw [e]; rfl
def gT (v : T) (i : Nat) : T := match v with
  | .tup xs => xs.getD i .non
  | _ => .non
def zT : T → Int
  | .int i => i
  | _ => 0
def itT : T → List T
  | .tup xs => xs
  | _ => []
def ltZ (a b : T) : Bool := decide (zT a < zT b)
theorem whole_of {v : T} {a b : Int} (h : whole v a b = true) : ∃ i : Int, v = .int i ∧ a ≤ i ∧ i ≤ b := by
  cases v <;> simp [whole] at h
  exact ⟨_, rfl, h.1, h.2⟩
theorem whole_i {i a b : Int} (h1 : a ≤ i) (h2 : i ≤ b) : whole (.int i) a b = true := by simp [whole, h1, h2]
theorem tup2_of {v : T} (h : tupOf v 2 2 = true) : ∃ a b, v = .tup [a, b] := by
  cases v <;> simp [tupOf] at h
  rename_i xs
  match xs, h with
  | [], h => simp at h
  | [a], h => simp at h
  | [a, b], _ => exact ⟨a, b, rfl⟩
  | a :: b :: c :: r, h => simp at h; omega
theorem tup3_of {v : T} (h : tupOf v 3 3 = true) : ∃ a b c, v = .tup [a, b, c] := by
  cases v <;> simp [tupOf] at h
  rename_i xs
  match xs, h with
  | [], h => simp at h
  | [a], h => simp at h
  | [a, b], h => simp at h
  | [a, b, c], _ => exact ⟨a, b, c, rfl⟩
  | a :: b :: c :: d :: r, h => simp at h; omega
theorem tupOf_of {v : T} {a b : Int} (h : tupOf v a b = true) : ∃ xs, v = .tup xs ∧ a ≤ (xs.length : Int) ∧ (xs.length : Int) ≤ b := by
  cases v <;> simp [tupOf] at h
  exact ⟨_, rfl, h.1, h.2⟩
abbrev W3 := Int × Int × Int
def w3 (p : W3) : T := .tup [.int p.1, .int p.2.1, .int p.2.2]
def p2 (p : W3) : List Int := [p.1, p.2.1]
def wayOk (n : Int) (w : T) : Bool := tupOf w 3 3 && (whole (gT w 0) 0 (n - 1) && whole (gT w 1) 0 (n - 1) && (ltZ (gT w 0) (gT w 1) && whole (gT w 2) 1 30))
def WayP (n : Int) (p : W3) : Prop := 0 ≤ p.1 ∧ p.1 < p.2.1 ∧ p.2.1 < n ∧ 1 ≤ p.2.2 ∧ p.2.2 ≤ 30
theorem wayOk_of {n : Int} {w : T} (h : wayOk n w = true) : ∃ p, w = w3 p ∧ WayP n p := by
  unfold wayOk at h
  rw [Bool.and_eq_true] at h
  obtain ⟨a, b, c, rfl⟩ := tup3_of h.1
  have h := h.2
  rw [Bool.and_eq_true, Bool.and_eq_true, Bool.and_eq_true] at h
  obtain ⟨⟨h1, h2⟩, h3, h4⟩ := h
  obtain ⟨i, e1, i1, i2⟩ := whole_of h1
  obtain ⟨j, e2, j1, j2⟩ := whole_of h2
  obtain ⟨k, e3, k1, k2⟩ := whole_of h4
  have e1 : a = .int i := e1
  have e2 : b = .int j := e2
  have e3 : c = .int k := e3
  subst e1; subst e2; subst e3
  have h3 : i < j := of_decide_eq_true h3
  exact ⟨(i, j, k), rfl, i1, h3, by show j < n; omega, k1, k2⟩
theorem wayOk_w3 {n : Int} {p : W3} (h : WayP n p) : wayOk n (w3 p) = true := by
  obtain ⟨h1, h2, h3, h4, h5⟩ := h
  show (true && (whole (.int p.1) 0 (n - 1) && whole (.int p.2.1) 0 (n - 1) && (decide (p.1 < p.2.1) && whole (.int p.2.2) 1 30))) = true
  rw [whole_i h1 (by omega), whole_i (by omega) (by omega), whole_i h4 h5, decide_eq_true h2]; rfl
theorem ways_of {n : Int} : ∀ {ws : List T}, ws.all (wayOk n) = true → ∃ ps : List W3, ws = ps.map w3 ∧ ∀ p ∈ ps, WayP n p
  | [], _ => ⟨[], rfl, fun _ h => by cases h⟩
  | w :: ws, h => by
    rw [List.all_cons, Bool.and_eq_true] at h
    obtain ⟨p, rfl, hp⟩ := wayOk_of h.1
    obtain ⟨ps, rfl, h2⟩ := ways_of h.2
    exact ⟨p :: ps, rfl, fun q hq => by
      rcases List.mem_cons.mp hq with rfl | hq
      · exact hp
      · exact h2 q hq⟩
/-- ascending -/
def risB {α : Type} (lt : α → α → Bool) (xs : List α) : Bool := (xs.zip xs.tail).all fun q => lt q.1 q.2
def s2 (w : T) : T := .tup ((itT w).take 2)
def fairOk (v : T) : Bool := tupOf v 2 2 && (whole (gT v 0) 1 8 && tupOf (gT v 1) 0 20) && ((itT (gT v 1)).all (wayOk (zT (gT v 0))) && risB (fun a b => ltT (s2 a) (s2 b)) (itT (gT v 1)))
def tFair (n : Int) (ps : List W3) : T := .tup [.int n, .tup (ps.map w3)]
structure FairP (n : Int) (ps : List W3) : Prop where
  n1 : 1 ≤ n
  n8 : n ≤ 8
  len : ps.length ≤ 20
  ways : ∀ p ∈ ps, WayP n p
  ris : risB (fun a b => ltI (p2 a) (p2 b)) ps = true
theorem risB_map {α β : Type} (f : α → β) (lt : β → β → Bool) (xs : List α) : risB lt (xs.map f) = risB (fun a b => lt (f a) (f b)) xs := by
  unfold risB
  have : ∀ (xs ys : List α), ((xs.map f).zip (ys.map f)).all (fun q => lt q.1 q.2) = (xs.zip ys).all fun q => lt (f q.1) (f q.2) := by
    intro xs
    induction xs with
    | nil => intro ys; rfl
    | cons x xs ih => intro ys; cases ys with
      | nil => rfl
      | cons y ys => simp only [List.map_cons, List.zip_cons_cons, List.all_cons, ih]
  rw [← List.map_tail, this]
theorem s2_w3 (p : W3) : s2 (w3 p) = tI (p2 p) := rfl
theorem ris_w3 (ps : List W3) : risB (fun a b => ltT (s2 a) (s2 b)) (ps.map w3) = risB (fun a b => ltI (p2 a) (p2 b)) ps := by
  rw [risB_map]
  congr 1
  funext a b
  exact ltT_tI (p2 a) (p2 b)
theorem fair_ok {n : Int} {ps : List W3} (h : FairP n ps) : fairOk (tFair n ps) = true := by
  show (true && (whole (.int n) 1 8 && (decide ((0 : Int) ≤ ((ps.map w3).length : Int)) && decide (((ps.map w3).length : Int) ≤ 20))) && ((ps.map w3).all (wayOk n) && risB (fun a b => ltT (s2 a) (s2 b)) (ps.map w3))) = true
  rw [whole_i h.n1 h.n8, ris_w3, h.ris, decide_eq_true (by omega), decide_eq_true (by have := h.len; rw [List.length_map]; omega)]
  simp only [Bool.true_and, Bool.and_true, List.all_map, List.all_eq_true]
  exact fun p hp => wayOk_w3 (h.ways p hp)
theorem plain_w3 (ps : List W3) : plainL (ps.map w3) = true := by
  induction ps with
  | nil => rfl
  | cons p ps ih => exact ih
theorem plain_fair (n : Int) (ps : List W3) : plain (tFair n ps) = true := by
  show (true && (plainL (ps.map w3) && true)) = true
  rw [plain_w3]; rfl
def f_rising : Fn := ⟨1, 3,
  (.seq (.ret (.bi .all (.cons (.lc (.cons (.n 1) (.cons (.n 2) .nil)) (.zip2 (.var 0) (.slc (.var 0) (.con (.int 1)) (.con .non))) (.con (.bl true)) [1, 2] (.cmp .lt (.var 1) (.var 2))) .nil)))
  .skip)⟩
def f_fitsWay (iw it : Nat) : Fn := ⟨2, 3,
  (.seq (.ite (.or (.not (.call it (.cons (.var 1) (.cons (.con (.int 3)) (.cons (.con (.int 3)) .nil))))) (.not (.bi .all (.cons (.lc (.n 2) (.slc (.var 1) (.con .non) (.con (.int 2))) (.con (.bl true)) [2] (.call iw (.cons (.var 2) (.cons (.con (.int 0)) (.cons (.bin .sub (.var 0) (.con (.int 1))) .nil))))) .nil))))
  (.seq (.ret (.con (.bl false)))
  .skip)
  .skip)
  (.seq (.ret (.and (.cmp .lt (.idx (.var 1) (.con (.int 0))) (.idx (.var 1) (.con (.int 1)))) (.call iw (.cons (.idx (.var 1) (.con (.int 2))) (.cons (.con (.int 1)) (.cons (.con (.int 30)) .nil))))))
  .skip))⟩
def f_fitsFair (iw it ir iy : Nat) : Fn := ⟨1, 2,
  (.seq (.ite (.or (.not (.call it (.cons (.var 0) (.cons (.con (.int 2)) (.cons (.con (.int 2)) .nil))))) (.or (.not (.call iw (.cons (.idx (.var 0) (.con (.int 0))) (.cons (.con (.int 1)) (.cons (.con (.int 8)) .nil))))) (.not (.call it (.cons (.idx (.var 0) (.con (.int 1))) (.cons (.con (.int 0)) (.cons (.con (.int 20)) .nil)))))))
  (.seq (.ret (.con (.bl false)))
  .skip)
  .skip)
  (.seq (.ite (.not (.bi .all (.cons (.lc (.n 1) (.idx (.var 0) (.con (.int 1))) (.con (.bl true)) [1] (.call iy (.cons (.idx (.var 0) (.con (.int 0))) (.cons (.var 1) .nil)))) .nil)))
  (.seq (.ret (.con (.bl false)))
  .skip)
  .skip)
  (.seq (.ret (.call ir (.cons (.bi .tuple (.cons (.lc (.n 1) (.idx (.var 0) (.con (.int 1))) (.con (.bl true)) [1] (.slc (.var 1) (.con .non) (.con (.int 2)))) .nil)) .nil)))
  .skip)))⟩
def f_need (i : Nat) : Fn := ⟨1, 1,
  (.seq (.ite (.not (.call i (.cons (.var 0) .nil)))
  (.seq (.raise 0)
  .skip)
  .skip)
  .skip)⟩
def f_nextTo : Fn := ⟨2, 4,
  (.seq (.asg 2 (.lc (.n 3) (.idx (.var 0) (.con (.int 1))) (.cmp .eq (.idx (.var 3) (.con (.int 0))) (.var 1)) [3] (.tup (.cons (.idx (.var 3) (.con (.int 1))) (.cons (.idx (.var 3) (.con (.int 2))) .nil)))))
  (.seq (.ret (.bi .sorted (.cons (.bin .add (.var 2) (.lc (.n 3) (.idx (.var 0) (.con (.int 1))) (.cmp .eq (.idx (.var 3) (.con (.int 1))) (.var 1)) [3] (.tup (.cons (.idx (.var 3) (.con (.int 0))) (.cons (.idx (.var 3) (.con (.int 2))) .nil))))) .nil)))
  .skip))⟩
section
variable {PR : Nat → Option Fn} {W n f : Nat}
theorem zipL_tail {α : Type} (inj : α → T) (xs : List α) : zipM (.tup (xs.map inj)) (.tup ((xs.map inj).drop 1)) = .ret ((xs.zip xs.tail).map fun p => T.tup [inj p.1, inj p.2]) := by
  show M.ret (zipL (xs.map inj) ((xs.map inj).drop 1)) = _
  rw [List.drop_one, ← List.map_tail, zipL_map]
theorem p_rising {α : Type} (hf : PR f = some f_rising) (hn : 1 ≤ n) (inj : α → T) (lt : α → α → Bool) (xs : List α) (h : ∀ a ∈ xs, ∀ b ∈ xs, cmpM .lt (inj a) (inj b) = .ret (.bl (lt a b))) (hl : xs.length ≤ lim) :
    callP PR W n f [.tup (xs.map inj)] = .ret (.bl (risB lt xs)) := by
  obtain ⟨n, rfl⟩ : ∃ m, n = m + 1 := ⟨n - 1, by omega⟩
  refine s_run hf rfl ?_
  show exec _ _ [some (.tup (xs.map inj)), none, none] = _
  refine xs_ret (d_bi1 (lc_mapA (fun p : α × α => T.tup [inj p.1, inj p.2]) (xs.zip xs.tail) (fun p => [some (.tup (xs.map inj)), some (inj p.1), some (inj p.2)]) (fun p => .bl (lt p.1 p.2))
    (d_zip2 rfl (d_slc (x := .tup (xs.map inj)) (l := some 1) (h := none) rfl rfl rfl (show M.ret (T.tup (cutT (xs.map inj) (some ((1 : Nat) : Int)) none)) = _ by rw [cut_drop])) (zipL_tail inj xs)) rfl ?_ ?_) (all_map (fun p : α × α => lt p.1 p.2) _))
  · rw [List.length_zip]; exact Nat.le_trans (Nat.min_le_left _ _) hl
  · intro p hp
    obtain ⟨h1, h2⟩ := List.of_mem_zip (a := p.1) (b := p.2) hp
    refine ⟨rfl, d_cmp (x := inj p.1) (y := inj p.2) rfl rfl (h _ h1 _ (List.mem_of_mem_tail h2))⟩
theorem p_fitsWay {iw it : Nat} (hw : PR iw = some f_whole) (ht : PR it = some f_tupOf) (hf : PR f = some (f_fitsWay iw it)) (hn : 2 ≤ n) (m : Int) (w : T) (hp : plain w = true) : callP PR W n f [.int m, w] = .ret (.bl (wayOk m w)) := by
  obtain ⟨n, rfl⟩ : ∃ k, n = k + 1 := ⟨n - 1, by omega⟩
  refine s_run hf rfl ?_
  show exec _ _ [some (.int m), some w, none] = _
  have h1 : den ⟨callP PR W n, W⟩ (.not (.call it (.cons (.var 1) (.cons (.con (.int 3)) (.cons (.con (.int 3)) .nil))))) [some (.int m), some w, none] = .ret (.bl (!tupOf w 3 3)) := d_not (d_call3 (x := w) (y := .int 3) (z := .int 3) rfl rfl rfl (p_tupOf ht (by omega) w 3 3 hp))
  cases ht3 : tupOf w 3 3 with
  | false =>
    rw [ht3] at h1
    rw [show wayOk m w = false by unfold wayOk; rw [ht3]; rfl]
    exact xs_yes (by rw [den_or, h1]; rfl) (xs_ret rfl)
  | true =>
    rw [ht3] at h1
    obtain ⟨a, b, c, rfl⟩ := tup3_of ht3
    have hp : (plain a && (plain b && (plain c && true))) = true := hp
    simp only [Bool.and_eq_true, and_true] at hp
    obtain ⟨pa, pb, pc⟩ := hp
    have h2 : den ⟨callP PR W n, W⟩ (.bi .all (.cons (.lc (.n 2) (.slc (.var 1) (.con .non) (.con (.int 2))) (.con (.bl true)) [2] (.call iw (.cons (.var 2) (.cons (.con (.int 0)) (.cons (.bin .sub (.var 0) (.con (.int 1))) .nil))))) .nil)) [some (.int m), some (.tup [a, b, c]), none] = .ret (.bl (whole a 0 (m - 1) && whole b 0 (m - 1))) := by
      refine d_bi1 (lc_mapA id [a, b] (fun x => [some (.int m), some (.tup [a, b, c]), some x]) (fun x => .bl (whole x 0 (m - 1))) (t := .tup [a, b]) (d_slc (x := .tup [a, b, c]) (l := none) (h := some 2) rfl rfl rfl rfl) rfl (by show 2 ≤ lim; decide) ?_) ((all_map (fun x => whole x 0 (m - 1)) [a, b]).trans (by simp))
      intro x hx
      refine ⟨rfl, d_call3 (x := x) (y := .int 0) (z := .int (m - 1)) rfl rfl (d_bin (x := .int m) (y := .int 1) rfl rfl rfl) (p_whole hw (by omega) x 0 (m - 1) ?_)⟩
      rcases List.mem_cons.mp hx with rfl | hx
      · exact pa
      · rw [List.mem_singleton.mp hx]; exact pb
    have h3 := d_or h1 fun _ => d_not h2
    show exec _ (f_fitsWay iw it).body _ = .ret (.rt (.bl (whole a 0 (m - 1) && whole b 0 (m - 1) && (ltZ a b && whole c 1 30))))
    cases hab : whole a 0 (m - 1) && whole b 0 (m - 1) with
    | false =>
      rw [hab] at h3
      exact xs_yes h3 (xs_ret rfl)
    | true =>
      rw [hab] at h3
      obtain ⟨k1, k2⟩ := Bool.and_eq_true_iff.mp hab
      obtain ⟨i, rfl, _⟩ := whole_of k1
      obtain ⟨j, rfl, _⟩ := whole_of k2
      refine xs_no h3 (xs_ret (d_and (x := decide (i < j)) (d_cmp (x := .int i) (y := .int j) rfl rfl (clt_int i j)) fun _ => d_call3 (x := c) (y := .int 1) (z := .int 30) rfl rfl rfl (p_whole hw (by omega) c 1 30 pc)))
theorem p_fitsFair {iw it ir iy : Nat} (hw : PR iw = some f_whole) (ht : PR it = some f_tupOf) (hr : PR ir = some f_rising) (hy : PR iy = some (f_fitsWay iw it)) (hf : PR f = some (f_fitsFair iw it ir iy)) (hn : 3 ≤ n) (v : T) (hp : plain v = true) : callP PR W n f [v] = .ret (.bl (fairOk v)) := by
  obtain ⟨n, rfl⟩ : ∃ k, n = k + 1 := ⟨n - 1, by omega⟩
  refine s_run hf rfl ?_
  show exec _ _ [some v, none] = _
  have h1 : den ⟨callP PR W n, W⟩ (.not (.call it (.cons (.var 0) (.cons (.con (.int 2)) (.cons (.con (.int 2)) .nil))))) [some v, none] = .ret (.bl (!tupOf v 2 2)) := d_not (d_call3 (x := v) (y := .int 2) (z := .int 2) rfl rfl rfl (p_tupOf ht (by omega) v 2 2 hp))
  cases ht2 : tupOf v 2 2 with
  | false =>
    rw [ht2] at h1
    rw [show fairOk v = false by unfold fairOk; rw [ht2]; rfl]
    exact xs_yes (by rw [den_or, h1]; rfl) (xs_ret rfl)
  | true =>
    rw [ht2] at h1
    obtain ⟨a, b, rfl⟩ := tup2_of ht2
    have hp : (plain a && (plain b && true)) = true := hp
    simp only [Bool.and_eq_true, and_true] at hp
    obtain ⟨pa, pb⟩ := hp
    have h2 : den ⟨callP PR W n, W⟩ (.not (.call iw (.cons (.idx (.var 0) (.con (.int 0))) (.cons (.con (.int 1)) (.cons (.con (.int 8)) .nil))))) [some (.tup [a, b]), none] = .ret (.bl (!whole a 1 8)) := d_not (d_call3 (x := a) (y := .int 1) (z := .int 8) rfl rfl rfl (p_whole hw (by omega) a 1 8 pa))
    have h3 : den ⟨callP PR W n, W⟩ (.not (.call it (.cons (.idx (.var 0) (.con (.int 1))) (.cons (.con (.int 0)) (.cons (.con (.int 20)) .nil))))) [some (.tup [a, b]), none] = .ret (.bl (!tupOf b 0 20)) := d_not (d_call3 (x := b) (y := .int 0) (z := .int 20) rfl rfl rfl (p_tupOf ht (by omega) b 0 20 pb))
    have h4 := d_or h1 fun _ => d_or h2 fun _ => h3
    show exec _ (f_fitsFair iw it ir iy).body _ = .ret (.rt (.bl (true && (whole a 1 8 && tupOf b 0 20) && ((itT b).all (wayOk (zT a)) && risB (fun a b => ltT (s2 a) (s2 b)) (itT b)))))
    cases hab : whole a 1 8 && tupOf b 0 20 with
    | false =>
      have : (!true || (!whole a 1 8 || !tupOf b 0 20)) = true := by
        rw [← Bool.not_and, hab]; rfl
      rw [this] at h4
      exact xs_yes h4 (xs_ret rfl)
    | true =>
      have : (!true || (!whole a 1 8 || !tupOf b 0 20)) = false := by
        rw [← Bool.not_and, hab]; rfl
      rw [this] at h4
      obtain ⟨k1, k2⟩ := Bool.and_eq_true_iff.mp hab
      obtain ⟨m, rfl, _⟩ := whole_of k1
      obtain ⟨ws, rfl, _, hlen⟩ := tupOf_of k2
      have hl : ws.length ≤ lim := lim_le (by omega)
      have pw : plainL ws = true := pb
      have h5 : den ⟨callP PR W n, W⟩ (.not (.bi .all (.cons (.lc (.n 1) (.idx (.var 0) (.con (.int 1))) (.con (.bl true)) [1] (.call iy (.cons (.idx (.var 0) (.con (.int 0))) (.cons (.var 1) .nil)))) .nil))) [some (.tup [.int m, .tup ws]), none] = .ret (.bl (!ws.all (wayOk m))) := by
        refine d_not (d_bi1 (lc_mapA id ws (fun x => [some (.tup [.int m, .tup ws]), some x]) (fun x => .bl (wayOk m x)) (t := .tup ws) rfl (by rw [List.map_id]; rfl) hl ?_) (all_map (wayOk m) ws))
        intro x hx
        exact ⟨rfl, d_call2 (x := .int m) (y := x) rfl rfl (p_fitsWay hw ht hy (by omega) m x (plainL_mem pw hx))⟩
      refine xs_no h4 ?_
      show exec _ _ _ = .ret (.rt (.bl (ws.all (wayOk m) && risB (fun a b => ltT (s2 a) (s2 b)) ws)))
      cases hall : ws.all (wayOk m) with
      | false =>
        rw [hall] at h5
        exact xs_yes h5 (xs_ret rfl)
      | true =>
        rw [hall] at h5
        obtain ⟨ps, rfl, hps⟩ := ways_of hall
        rw [List.length_map] at hl
        refine xs_no h5 (xs_ret (d_call1 (x := .tup (ps.map fun p => tI (p2 p))) (d_bi1 (x := .lst (ps.map fun p => tI (p2 p))) ?_ rfl) ?_))
        · refine lc_mapA w3 ps (fun p => [some (.tup [.int m, .tup (ps.map w3)]), some (w3 p)]) (fun p => tI (p2 p)) (t := .tup (ps.map w3)) rfl rfl hl fun p _ => ⟨rfl, d_slc (x := w3 p) (l := none) (h := some 2) rfl rfl rfl rfl⟩
        · rw [ris_w3, Bool.true_and]
          exact p_rising hr (by omega) (fun p => tI (p2 p)) (fun a b => ltI (p2 a) (p2 b)) ps (fun a _ b _ => clt_tI _ _) hl
theorem p_need {i : Nat} (hf : PR f = some (f_need i)) (hn : 1 ≤ n) (v : T) (h : callP PR W (n - 1) i [v] = .ret (.bl true)) : callP PR W n f [v] = .ret .non := by
  obtain ⟨n, rfl⟩ : ∃ k, n = k + 1 := ⟨n - 1, by omega⟩
  refine s_runN (e := [some v]) hf rfl ?_
  show exec _ _ [some v] = _
  exact xs_no (d_not' (d_call1 (x := v) rfl h) rfl) rfl
end
abbrev t2 (q : Int × Int) : T := .tup [.int q.1, .int q.2]
def kq (q : Int × Int) : List Int := [q.1, q.2]
def nx (ps : List W3) (i : Int) : List (Int × Int) := ((ps.filter fun p => decide (p.1 = i)).map (·.2)) ++ (ps.filter fun p => decide (p.2.1 = i)).map fun p => (p.1, p.2.2)
theorem t2_tI (q : Int × Int) : t2 q = tI (kq q) := rfl
theorem ltT_t2 (a b : Int × Int) : ltT (t2 a) (t2 b) = ltI (kq a) (kq b) := ltT_tI (kq a) (kq b)
theorem ordAll_t2 (qs : List (Int × Int)) : ordAll (qs.map t2) = true := by
  have e : qs.map t2 = (qs.map kq).map tI := by rw [List.map_map]; rfl
  unfold ordAll
  have d := depL_tI (qs.map kq)
  rw [e, plainL_tI, decide_eq_true (show depL ((qs.map kq).map tI) ≤ 60 by omega)]
  simp only [Bool.true_and, Bool.and_eq_true, Bool.or_eq_true, List.all_map, List.all_eq_true]
  exact ⟨fun a _ => List.all_eq_true.mpr fun b _ => alike_tI _ _, .inl fun a _ => rfl⟩
theorem sorted_t2 (qs : List (Int × Int)) : biM .sorted [.lst (qs.map t2)] = .ret (.lst ((sortK kq qs).map t2)) := by
  show (if ordAll (qs.map t2) = true then M.ret (T.lst (sortT (qs.map t2))) else .stuck) = _
  rw [if_pos (ordAll_t2 qs), sortT_key t2 kq ltT_t2]
theorem plainL_t2 (qs : List (Int × Int)) : plainL (qs.map t2) = true := by
  induction qs with
  | nil => rfl
  | cons q qs ih => exact ih
/-- i, j are next to each other -/
def adj (ps : List W3) (i j : Int) : Prop := ∃ p ∈ ps, (p.1 = i ∧ p.2.1 = j) ∨ (p.1 = j ∧ p.2.1 = i)
theorem mem_nx {ps : List W3} {i j : Int} : j ∈ (nx ps i).map (·.1) ↔ adj ps i j := by
  unfold nx adj
  simp only [List.map_append, List.map_map, List.mem_append, List.mem_map, List.mem_filter, decide_eq_true_eq, Function.comp]
  constructor
  · rintro (⟨p, ⟨hp, h1⟩, h2⟩ | ⟨p, ⟨hp, h1⟩, h2⟩)
    · exact ⟨p, hp, .inl ⟨h1, h2⟩⟩
    · exact ⟨p, hp, .inr ⟨h2, h1⟩⟩
  · rintro ⟨p, hp, ⟨h1, h2⟩ | ⟨h1, h2⟩⟩
    · exact .inl ⟨p, ⟨hp, h1⟩, h2⟩
    · exact .inr ⟨p, ⟨hp, h2⟩, h1⟩
theorem nx_len (ps : List W3) (i : Int) : (nx ps i).length ≤ ps.length + ps.length := by
  unfold nx
  rw [List.length_append, List.length_map, List.length_map]
  have := List.length_filter_le (fun p : W3 => decide (p.1 = i)) ps
  have := List.length_filter_le (fun p : W3 => decide (p.2.1 = i)) ps
  omega
section
variable {PR : Nat → Option Fn} {W n f : Nat}
theorem p_nextTo (hf : PR f = some f_nextTo) (hn : 1 ≤ n) (m : Int) (ps : List W3) (i : Int) (hl : ps.length ≤ 1000) : callP PR W n f [tFair m ps, .int i] = .ret (.lst ((sortK kq (nx ps i)).map t2)) := by
  obtain ⟨n, rfl⟩ : ∃ k, n = k + 1 := ⟨n - 1, by omega⟩
  refine s_run hf rfl ?_
  show exec _ _ [some (tFair m ps), some (.int i), none, none] = _
  refine xs_asg (t := .lst ((ps.filter fun p => decide (p.1 = i)).map fun p => t2 p.2)) ?_ (xs_ret (d_bi1 (d_bin (x := .lst ((ps.filter fun p => decide (p.1 = i)).map fun p => t2 p.2)) (y := .lst ((ps.filter fun p => decide (p.2.1 = i)).map fun p => t2 (p.1, p.2.2))) rfl ?_ ?_) (sorted_t2 (nx ps i))))
  · refine lc_evA w3 ps (fun p => [some (tFair m ps), some (.int i), none, some (w3 p)]) (fun p => decide (p.1 = i)) (fun p => t2 p.2) (t := .tup (ps.map w3)) rfl rfl (lim_le (by omega)) fun p _ => ⟨rfl, d_cmp (x := .int p.1) (y := .int i) rfl rfl (ceq_int _ _), fun _ => d_tup (d_cons (x := .int p.2.1) rfl (d_cons (x := .int p.2.2) rfl rfl)) (by show 2 ≤ lim; decide)⟩
  · refine lc_evA w3 ps (fun p => [some (tFair m ps), some (.int i), some (.lst ((ps.filter fun p => decide (p.1 = i)).map fun p => t2 p.2)), some (w3 p)]) (fun p => decide (p.2.1 = i)) (fun p => t2 (p.1, p.2.2)) (t := .tup (ps.map w3)) rfl rfl (lim_le (by omega)) fun p _ => ⟨rfl, d_cmp (x := .int p.2.1) (y := .int i) rfl rfl (ceq_int _ _), fun _ => d_tup (d_cons (x := .int p.1) rfl (d_cons (x := .int p.2.2) rfl rfl)) (by show 2 ≤ lim; decide)⟩
  · have e : ((ps.filter fun p => decide (p.1 = i)).map fun p => t2 p.2) ++ ((ps.filter fun p => decide (p.2.1 = i)).map fun p => t2 (p.1, p.2.2)) = (nx ps i).map t2 := by
      unfold nx
      rw [List.map_append, List.map_map, List.map_map]; rfl
    show mkLst _ = _
    rw [e]
    refine if_pos ?_
    rw [List.length_map]
    exact lim_le (Nat.le_trans (nx_len ps i) (by omega))
end
end Py

set_option linter.all false
set_option autoImplicit false
set_option maxRecDepth 100000
namespace Py
abbrev KI := (Int × Int) × Int
def md (D : List KI) : List (T × T) := D.map fun e => (t2 e.1, T.int e.2)
def vD (D : List KI) (q : Int × Int) : Int := ((D.find? fun e => decide (e.1 = q)).map (·.2)).getD 0
def pD (D : List KI) (q : Int × Int) (v : Int) : List KI := if (D.any fun e => decide (e.1 = q)) = true then D.map fun e => if e.1 = q then (e.1, v) else e else D ++ [(q, v)]
theorem eqT_t2 (a b : Int × Int) : eqT (t2 a) (t2 b) = decide (a = b) := by
  rw [show t2 a = k2 a.1 a.2 from rfl, show t2 b = k2 b.1 b.2 from rfl, eqT_k2]
  congr 1
  rw [Prod.ext_iff]
theorem fits_md (D : List KI) (q : Int × Int) : fits (md D) (t2 q) = true := by
  unfold fits
  rw [show keyOk (t2 q) = true from rfl, Bool.true_and, List.all_eq_true]
  intro p hp
  obtain ⟨e, _, rfl⟩ := List.mem_map.mp hp
  rfl
theorem dget_md (q : Int × Int) : ∀ D : List KI, dget (md D) (t2 q) = (D.find? fun e => decide (e.1 = q)).map fun e => T.int e.2
  | [] => rfl
  | e :: D => by
    show ((List.find? (fun p => eqT p.1 (t2 q)) ((t2 e.1, T.int e.2) :: md D)).map (·.2)) = _
    rw [List.find?_cons, List.find?_cons, eqT_t2]
    by_cases h : e.1 = q
    · simp [h]
    · simp only [h, decide_false]
      exact dget_md q D
theorem idx_md {D : List KI} {q : Int × Int} (h : q ∈ D.map (·.1)) : idxM (.dct (md D)) (t2 q) = .ret (.int (vD D q)) ∧ (q, vD D q) ∈ D := by
  obtain ⟨e, he, rfl⟩ := List.mem_map.mp h
  have hs : (D.find? fun x => decide (x.1 = e.1)).isSome = true := List.find?_isSome.mpr ⟨e, he, by simp⟩
  obtain ⟨x, hx⟩ := Option.isSome_iff_exists.mp hs
  have h1 := List.find?_some hx
  have h2 := List.mem_of_find?_eq_some hx
  have h1 : x.1 = e.1 := of_decide_eq_true h1
  refine ⟨?_, ?_⟩
  · show (if fits (md D) (t2 e.1) = true then (match dget (md D) (t2 e.1) with | some v => M.ret v | none => .stuck) else .stuck) = _
    rw [if_pos (fits_md D e.1), dget_md]
    unfold vD
    rw [hx]; rfl
  · unfold vD
    rw [hx, ← h1]; exact h2
theorem any_md (D : List KI) (q : Int × Int) : ((md D).any fun p => eqT p.1 (t2 q)) = D.any fun e => decide (e.1 = q) := by
  unfold md
  rw [List.any_map]
  congr 1
  funext e
  exact eqT_t2 e.1 q
theorem dput_md (D : List KI) (q : Int × Int) (v : Int) : dput (md D) (t2 q) (.int v) = md (pD D q v) := by
  unfold dput pD
  rw [any_md]
  cases h : D.any fun e => decide (e.1 = q) with
  | true =>
    simp only [if_true]
    unfold md
    rw [List.map_map, List.map_map]
    refine List.map_congr_left fun e _ => ?_
    show (if eqT (t2 e.1) (t2 q) = true then (t2 e.1, T.int v) else (t2 e.1, T.int e.2)) = _
    rw [eqT_t2]
    by_cases z : e.1 = q <;> simp [z]
  | false =>
    simp only [Bool.false_eq_true, if_false]
    unfold md
    rw [List.map_append]; rfl
theorem set_md {D : List KI} {q : Int × Int} {v : Int} (h : D.length < lim) : setI (.dct (md D)) (t2 q) (.int v) = .ret (.dct (md (pD D q v))) := by
  show (if (fits (md D) (t2 q) && decide ((md D).length < lim)) = true then M.ret (T.dct (dput (md D) (t2 q) (.int v))) else .stuck) = _
  rw [fits_md, decide_eq_true (by unfold md; rw [List.length_map]; exact h), dput_md]; rfl
theorem pD_keys (D : List KI) (q : Int × Int) (v : Int) : (pD D q v).map (·.1) = if q ∈ D.map (·.1) then D.map (·.1) else D.map (·.1) ++ [q] := by
  unfold pD
  by_cases h : q ∈ D.map (·.1)
  · have : (D.any fun e => decide (e.1 = q)) = true := by
      obtain ⟨e, he, rfl⟩ := List.mem_map.mp h
      exact List.any_eq_true.mpr ⟨e, he, by simp⟩
    rw [if_pos this, if_pos h, List.map_map]
    refine List.map_congr_left fun e _ => ?_
    show (if e.1 = q then (e.1, v) else e).1 = e.1
    split <;> rfl
  · have : ¬ (D.any fun e => decide (e.1 = q)) = true := fun z => by
      obtain ⟨e, he, z⟩ := List.any_eq_true.mp z
      exact h (List.mem_map.mpr ⟨e, he, of_decide_eq_true z⟩)
    rw [if_neg this, if_neg h, List.map_append]; rfl
theorem pD_nodup {D : List KI} {q : Int × Int} {v : Int} (h : (D.map (·.1)).Nodup) : ((pD D q v).map (·.1)).Nodup := by
  rw [pD_keys]
  split
  · exact h
  · rename_i z
    exact List.nodup_append.mpr ⟨h, by simp, fun a ha b hb e => z (by rw [List.mem_singleton.mp hb] at e; exact e ▸ ha)⟩
theorem pD_len (D : List KI) (q : Int × Int) (v : Int) : (pD D q v).length ≤ D.length + 1 := by
  unfold pD
  split
  · rw [List.length_map]; omega
  · rw [List.length_append]; simp
theorem pD_mem {D : List KI} {q : Int × Int} {v : Int} {e : KI} (h : e ∈ pD D q v) : e ∈ D ∨ e = (q, v) := by
  unfold pD at h
  split at h
  · obtain ⟨x, hx, rfl⟩ := List.mem_map.mp h
    by_cases z : x.1 = q
    · rw [if_pos z, z]; exact .inr rfl
    · rw [if_neg z]; exact .inl hx
  · rcases List.mem_append.mp h with h | h
    · exact .inl h
    · exact .inr (List.mem_singleton.mp h)
theorem md_keys (D : List KI) : (md D).map (·.1) = (D.map (·.1)).map t2 := by
  unfold md; rw [List.map_map, List.map_map]; rfl
theorem sorted_md (D : List KI) : biM .sorted [.dct (md D)] = .ret (.lst ((sortK kq (D.map (·.1))).map t2)) := by
  show (if ordAll ((md D).map (·.1)) = true then M.ret (T.lst (sortT ((md D).map (·.1)))) else .stuck) = _
  rw [md_keys, if_pos (ordAll_t2 _), sortT_key t2 kq ltT_t2]
/-- sorted, and none twice: each is less than the next -/
theorem kq_inj {a b : Int × Int} (h : kq a = kq b) : a = b := by
  unfold kq at h
  injection h with h1 h2
  injection h2 with h2 _
  exact Prod.ext h1 h2
theorem sorted_ris : ∀ {l : List (Int × Int)}, SortedK kq l → l.Nodup → risB (fun a b => ltI (kq a) (kq b)) l = true
  | [], _, _ => rfl
  | [x], _, _ => rfl
  | x :: y :: l, h, d => by
    have ih := sorted_ris (l := y :: l) h.2 (List.nodup_cons.mp d).2
    have hx : x ≠ y := fun z => (List.nodup_cons.mp d).1 (by rw [z]; exact .head _)
    show (ltI (kq x) (kq y) && risB (fun a b => ltI (kq a) (kq b)) (y :: l)) = true
    rw [ih, Bool.and_true]
    cases e : ltI (kq x) (kq y) with
    | true => rfl
    | false => exact absurd (kq_inj (ltI_tot _ _ e (h.1 y (.head _)))) hx
section
variable {C : Cx} {env : Env}
theorem ws_then {c : E} {a a' b : S} {Q : R → Prop} (h : den C c env = .ret (.bl true)) (k : W0 (exec C a env) fun r => match r with
      | .nx e => W0 (exec C b e) Q
      | .rt t => Q (.rt t)
      | .bk e => Q (.bk e)) : W0 (exec C (.seq (.ite c a a') b) env) Q := by
  simp only [exec_seq, exec_ite, h, bind_ret, asB_bl, if_true]
  exact w0_bind.mpr (k.mono fun r z => match r, z with
    | .nx _, z => z
    | .rt _, z => w0_val z
    | .bk _, z => w0_val z)
theorem ws_skip {Q : R → Prop} (h : Q (.nx env)) : W0 (exec C .skip env) Q := w0_val h
theorem ws_setiW {i : Nat} {k e : E} {b : S} {c kk : T} {Q : R → Prop} (h : W0 (den C e env) fun v => getv env i = .ret c ∧ den C k env = .ret kk ∧ ∃ c', setI c kk v = .ret c' ∧ W0 (exec C b (setv env i c')) Q) : W0 (exec C (.seq (.seti i k e) b) env) Q := by
  simp only [exec_seq, exec_seti, bind_assoc]
  refine w0_bind.mpr (h.mono fun v ⟨h1, h2, c', h3, h4⟩ => ?_)
  simp only [h1, h2, h3, bind_ret]
  exact h4
theorem w0_add1E {a : E} {Q : T → Prop} (h : W0 (den C a env) fun y => ∃ i : Int, y = .int i ∧ Q (.int (1 + i))) : W0 (den C (.bin .add (.con (.int 1)) a) env) Q :=
  w0_binE (w0_val (h.mono fun y ⟨i, e, q⟩ => by subst e; exact w0_val q))
end
def f_lawFair (is : Nat) : Fn := ⟨3, 9,
  (.seq (.par [3, 4] (.cons (.bin .add (.con (.int 1)) (.roll (.var 0) (.var 1))) (.cons .dnil .nil)))
  (.seq (.for_ (.n 5) (.rng1 (.roll (.var 0) (.bin .add (.var 2) (.con (.int 1)))))
  (.seq (.par [6, 7] (.cons (.roll (.var 0) (.var 3)) (.cons (.roll (.var 0) (.var 3)) .nil)))
  (.seq (.ite (.cmp .ne (.var 6) (.var 7))
  (.seq (.seti 4 (.tup (.cons (.bi .min2 (.cons (.var 6) (.cons (.var 7) .nil))) (.cons (.bi .max2 (.cons (.var 6) (.cons (.var 7) .nil))) .nil))) (.bin .add (.con (.int 1)) (.roll (.var 0) (.call is (.cons (.var 0) (.cons (.lst (.cons (.con (.int 1)) (.cons (.con (.int 3)) (.cons (.con (.int 30)) .nil)))) .nil))))))
  .skip)
  .skip)
  .skip)))
  (.seq (.ret (.tup (.cons (.var 3) (.cons (.bi .tuple (.cons (.lc (.n 8) (.bi .sorted (.cons (.var 4) .nil)) (.con (.bl true)) [8] (.bin .add (.var 8) (.tup (.cons (.idx (.var 4) (.var 8)) .nil)))) .nil)) .nil))))
  .skip)))⟩
theorem p_lawFair {PR : Nat → Option Fn} {W n f is : Nat} (hs : PR is = some f_some) (hf : PR f = some (f_lawFair is)) (hn : 2 ≤ n) (st : Int) (wy : Nat) (h1 : 1 ≤ st) (h8 : st ≤ 8) (hw : wy ≤ 20) :
    W0 (callP PR W n f [.cup, .int st, .int (wy : Int)]) fun t => ∃ m ps, t = tFair m ps ∧ FairP m ps ∧ m ≤ st ∧ ps.length ≤ wy := by
  obtain ⟨n, rfl⟩ : ∃ k, n = k + 1 := ⟨n - 1, by omega⟩
  refine w0_run hf rfl ?_
  show W0 (exec _ _ [some .cup, some (.int st), some (.int (wy : Int)), none, none, none, none, none, none]) _
  refine ws_parW (w0_consE (w0_add1E (w0_rollE (k := st) rfl rfl (by omega) (by omega) fun i i0 i1 => ⟨i, rfl, ?_⟩)))
  refine w0_ret (a := .tup [.dct []]) rfl ⟨_, rfl, _, _, rfl, rfl, ?_⟩
  have hm1 : 1 ≤ 1 + i := by omega
  have hm8 : 1 + i ≤ st := by omega
  generalize 1 + i = m at hm1 hm8
  show W0 (exec _ _ [some .cup, some (.int st), some (.int (wy : Int)), some (.int m), some (.dct []), none, none, none, none]) _
  refine ws_forW (w0_rng1E (w0_rollE (k := (wy : Int) + 1) rfl rfl (by omega) (by omega) fun j j0 j1 => ⟨j.toNat, by rw [Int.toNat_of_nonneg j0], by omega, _, rfl,
    fun r e => ∃ D x5 x6 x7 x8, e = [some .cup, some (.int st), some (.int (wy : Int)), some (.int m), some (.dct (md D)), x5, x6, x7, x8] ∧ (D.map (·.1)).Nodup ∧ (∀ e ∈ D, 0 ≤ e.1.1 ∧ e.1.1 < e.1.2 ∧ e.1.2 < m ∧ 1 ≤ e.2 ∧ e.2 ≤ 30) ∧ D.length + r.length ≤ wy,
    ⟨[], none, none, none, none, rfl, List.Pairwise.nil, fun _ z => (by cases z), by simp; omega⟩, ?_, ?_⟩))
  · rintro y r e ⟨D, x5, x6, x7, x8, rfl, nd, hD, hl⟩
    refine w0_val ?_
    show W0 (exec _ _ [some .cup, some (.int st), some (.int (wy : Int)), some (.int m), some (.dct (md D)), some y, x6, x7, x8]) _
    refine ws_parW (w0_consE (w0_rollE (k := m) rfl rfl (by omega) (by omega) fun a a0 a1 => w0_consE (w0_rollE (k := m) rfl rfl (by omega) (by omega) fun b b0 b1 => w0_val ⟨[], rfl, ?_⟩)))
    refine ⟨_, rfl, _, _, rfl, rfl, ?_⟩
    show W0 (exec _ _ [some .cup, some (.int st), some (.int (wy : Int)), some (.int m), some (.dct (md D)), some y, some (.int a), some (.int b), x8]) _
    have hc : ∀ C : Cx, den C (.cmp .ne (.var 6) (.var 7)) [some .cup, some (.int st), some (.int (wy : Int)), some (.int m), some (.dct (md D)), some y, some (.int a), some (.int b), x8] = .ret (.bl (!decide (a = b))) := fun C => d_cmp (x := .int a) (y := .int b) rfl rfl (cne_int a b)
    simp only [List.length_cons] at hl
    by_cases hab : a = b
    · refine ws_no ((hc _).trans (by rw [decide_eq_true hab]; rfl)) (ws_skip ⟨D, _, _, _, _, rfl, nd, hD, by omega⟩)
    · refine ws_then ((hc _).trans (by rw [decide_eq_false hab]; rfl)) ?_
      have hq : ∃ q : Int × Int, 0 ≤ q.1 ∧ q.1 < q.2 ∧ q.2 < m ∧ q = ((if b < a then b else a), (if b > a then b else a)) := by
        refine ⟨_, ?_, ?_, ?_, rfl⟩
        · show 0 ≤ (if b < a then b else a)
          split <;> omega
        · show (if b < a then b else a) < (if b > a then b else a)
          split <;> split <;> omega
        · show (if b > a then b else a) < m
          split <;> omega
      obtain ⟨q, q0, q1, q2, hq⟩ := hq
      refine ws_setiW (c := .dct (md D)) (kk := t2 q) (w0_add1E (w0_rollEW rfl (w0_call2E (w0_val (w0_ret (a := .lst [.int 1, .int 3, .int 30]) (d_lst rfl (by show 3 ≤ lim; decide)) (p_some hs (by omega) (.inl rfl) (by simp) (by show 3 < 1073741824; decide) fun x hx => ?_))))))
      have hx : ∃ k : Int, x = .int k ∧ 0 < k ∧ k ≤ 30 := by
        simp only [List.mem_cons, List.not_mem_nil, or_false] at hx
        rcases hx with rfl | rfl | rfl
        · exact ⟨1, rfl, by omega, by omega⟩
        · exact ⟨3, rfl, by omega, by omega⟩
        · exact ⟨30, rfl, by omega, by omega⟩
      obtain ⟨k, rfl, k0, k1⟩ := hx
      refine ⟨k, rfl, k0, by omega, fun v v0 v1 => ⟨v, rfl, rfl, ?_, _, set_md (by show _ < 16777216; omega), ws_skip ?_⟩⟩
      · refine d_tup (xs := [.int q.1, .int q.2]) ?_ (by show 2 ≤ lim; decide)
        rw [hq]
        exact d_cons (d_bi2 (x := .int a) (y := .int b) rfl rfl rfl) (d_cons (d_bi2 (x := .int a) (y := .int b) rfl rfl rfl) rfl)
      · refine ws_skip ⟨pD D q (1 + v), _, _, _, _, rfl, pD_nodup nd, fun e he => ?_, ?_⟩
        · rcases pD_mem he with he | rfl
          · exact hD e he
          · exact ⟨q0, q1, q2, by show 1 ≤ 1 + v; omega, by show 1 + v ≤ 30; omega⟩
        · have := pD_len D q (1 + v); omega
  · rintro e ⟨D, x5, x6, x7, x8, rfl, nd, hD, hl⟩
    have hl : D.length ≤ wy := by simpa using hl
    have pm := sortK_perm kq (D.map (·.1))
    have sl : (sortK kq (D.map (·.1))).length = D.length := by rw [pm.length_eq, List.length_map]
    refine ws_ret (t := tFair m ((sortK kq (D.map (·.1))).map fun q => (q.1, q.2, vD D q))) (d_tup (d_cons (x := .int m) rfl (d_cons (x := .tup (((sortK kq (D.map (·.1))).map fun q => (q.1, q.2, vD D q)).map w3)) (d_bi1 (x := .lst (((sortK kq (D.map (·.1))).map fun q => (q.1, q.2, vD D q)).map w3)) ?_ rfl) rfl)) (by show 2 ≤ lim; decide)) ?_
    · rw [List.map_map]
      show den _ (.lc (.n 8) (.bi .sorted (.cons (.var 4) .nil)) (.con (.bl true)) [8] (.bin .add (.var 8) (.tup (.cons (.idx (.var 4) (.var 8)) .nil)))) [some .cup, some (.int st), some (.int (wy : Int)), some (.int m), some (.dct (md D)), x5, x6, x7, x8] = M.ret (T.lst ((sortK kq (D.map (·.1))).map fun q => w3 (q.1, q.2, vD D q)))
      have key : ∀ C : Cx, den C (.lc (.n 8) (.bi .sorted (.cons (.var 4) .nil)) (.con (.bl true)) [8] (.bin .add (.var 8) (.tup (.cons (.idx (.var 4) (.var 8)) .nil)))) [some .cup, some (.int st), some (.int (wy : Int)), some (.int m), some (.dct (md D)), x5, x6, x7, x8] = M.ret (T.lst ((sortK kq (D.map (·.1))).map fun q => w3 (q.1, q.2, vD D q))) := fun C => by
        refine lc_mapA t2 (sortK kq (D.map (·.1))) (fun q => [some .cup, some (.int st), some (.int (wy : Int)), some (.int m), some (.dct (md D)), x5, x6, x7, some (t2 q)]) (fun q => w3 (q.1, q.2, vD D q)) (t := .lst ((sortK kq (D.map (·.1))).map t2)) ?_ ?_ ?_ ?_
        · exact d_bi1 (x := .dct (md D)) rfl (sorted_md D)
        · rfl
        · rw [sl]; exact lim_le (by omega)
        · intro q hq
          have hk := idx_md (pm.mem_iff.mp hq)
          exact ⟨rfl, d_bin (x := t2 q) (y := .tup [.int (vD D q)]) (by simp only [den_var, getv_succ, getv_zero]) (d_tup (d_cons (d_idx (x := .dct (md D)) (y := t2 q) rfl (by simp only [den_var, getv_succ, getv_zero]) hk.1) rfl) (by show 1 ≤ lim; decide)) rfl⟩
      exact key _
    · refine ⟨m, _, rfl, ⟨hm1, by omega, ?_, fun p hp => ?_, ?_⟩, hm8, ?_⟩
      · rw [List.length_map, sl]; omega
      · obtain ⟨q, hq, rfl⟩ := List.mem_map.mp hp
        have hk := hD _ (idx_md (pm.mem_iff.mp hq)).2
        exact hk
      · rw [risB_map]
        exact sorted_ris (sortK_sorted kq _) (pm.nodup_iff.mpr nd)
      · rw [List.length_map, sl]; exact hl
end Py

set_option linter.all false
set_option autoImplicit false
set_option maxRecDepth 100000
namespace Py
theorem istup_ev {v : T} (h : plain v = true) : biM .istup [v] = .ret (.bl (isTup v)) := by
  cases v <;> simp [biM, isTup, plain] at h ⊢
theorem isTup_of {v : T} (h : isTup v = true) : ∃ xs, v = .tup xs := by
  cases v <;> simp [isTup] at h
  exact ⟨_, rfl⟩
theorem any_int (L : List Int) (j : Int) : ((L.map T.int).any fun y => eqT y (.int j)) = decide (j ∈ L) := by
  rw [List.any_map, Bool.eq_iff_iff, List.any_eq_true, decide_eq_true_eq]
  constructor
  · rintro ⟨x, hx, h⟩
    have h : eqT (.int x) (.int j) = true := h
    rw [eqT_int, decide_eq_true_eq] at h
    exact h ▸ hx
  · intro h
    exact ⟨j, h, by show eqT (.int j) (.int j) = true; rw [eqT_int]; simp⟩
theorem in_lstI (L : List Int) (j : Int) : inM (.int j) (.lst (L.map T.int)) = .ret (decide (j ∈ L)) := by
  show (if (plainL (L.map T.int) && plain (.int j) && decide (min (depL (L.map T.int)) (dep (.int j)) ≤ 60)) = true then M.ret ((L.map T.int).any fun y => eqT y (.int j)) else .stuck) = _
  rw [plainL_int, depL_int, any_int]
  rfl
theorem cin_lstI (L : List Int) (j : Int) : cmpM .isin (.int j) (.lst (L.map T.int)) = .ret (.bl (decide (j ∈ L))) := by
  show (inM _ _).bind _ = _
  rw [in_lstI]; rfl
theorem cnin_lstI (L : List Int) (j : Int) : cmpM .nin (.int j) (.lst (L.map T.int)) = .ret (.bl (!decide (j ∈ L))) := by
  show (inM _ _).bind _ = _
  rw [in_lstI]; rfl
theorem filter_isEmpty {α : Type} (p : α → Bool) : ∀ l : List α, (l.filter fun x => !p x).isEmpty = l.all p
  | [] => rfl
  | x :: l => by
    rw [List.filter_cons, List.all_cons]
    cases h : p x with
    | true => simp only [Bool.not_true, Bool.false_eq_true, if_false, Bool.true_and]; exact filter_isEmpty p l
    | false => rfl
/-- whether j is next to i -/
def adjB (ps : List W3) (i j : Int) : Bool := decide (j ∈ (nx ps i).map (·.1))
def walkOk (n : Int) (ps : List W3) (v : T) : Bool := isTup v && (!(itT v).isEmpty && (itT v).all fun x => whole x 0 (n - 1)) && risB (fun a b => adjB ps (zT a) (zT b)) (itT v)
/-- a walk of integers -/
def walkZ (n : Int) (ps : List W3) (zs : List Int) : Bool := !zs.isEmpty && (zs.all fun z => decide (0 ≤ z) && decide (z ≤ n - 1)) && risB (adjB ps) zs
theorem walkOk_tI (n : Int) (ps : List W3) (zs : List Int) : walkOk n ps (tI zs) = walkZ n ps zs := by
  show (true && (!(zs.map T.int).isEmpty && (zs.map T.int).all fun x => whole x 0 (n - 1)) && risB (fun a b => adjB ps (zT a) (zT b)) (zs.map T.int)) = _
  have e : (zs.map T.int).isEmpty = zs.isEmpty := by cases zs <;> rfl
  rw [risB_map, List.all_map, e, Bool.true_and]
  rfl
theorem ints_of {lo hi : Int} : ∀ {xs : List T}, (xs.all fun x => whole x lo hi) = true → ∃ zs : List Int, xs = zs.map T.int ∧ ∀ z ∈ zs, lo ≤ z ∧ z ≤ hi
  | [], _ => ⟨[], rfl, fun _ h => by cases h⟩
  | x :: xs, h => by
    rw [List.all_cons, Bool.and_eq_true] at h
    obtain ⟨z, rfl, h1, h2⟩ := whole_of h.1
    obtain ⟨zs, rfl, h3⟩ := ints_of h.2
    exact ⟨z :: zs, rfl, fun y hy => by
      rcases List.mem_cons.mp hy with rfl | hy
      · exact ⟨h1, h2⟩
      · exact h3 y hy⟩
def f_fitsWalk (iw ix : Nat) : Fn := ⟨2, 6,
  (.seq (.ite (.or (.not (.bi .istup (.cons (.var 1) .nil))) (.or (.cmp .eq (.var 1) (.tup .nil)) (.not (.bi .all (.cons (.lc (.n 2) (.var 1) (.con (.bl true)) [2] (.call iw (.cons (.var 2) (.cons (.con (.int 0)) (.cons (.bin .sub (.idx (.var 0) (.con (.int 0))) (.con (.int 1))) .nil))))) .nil)))))
  (.seq (.ret (.con (.bl false)))
  .skip)
  .skip)
  (.seq (.ret (.bi .all (.cons (.lc (.cons (.n 2) (.cons (.n 5) .nil)) (.zip2 (.var 1) (.slc (.var 1) (.con (.int 1)) (.con .non))) (.con (.bl true)) [2, 5] (.cmp .isin (.var 5) (.lc (.cons (.n 3) (.cons (.n 4) .nil)) (.call ix (.cons (.var 0) (.cons (.var 2) .nil))) (.con (.bl true)) [3, 4] (.var 3)))) .nil)))
  .skip))⟩
section
variable {PR : Nat → Option Fn} {W n f : Nat}
theorem p_fitsWalk {iw ix : Nat} (hw : PR iw = some f_whole) (hx : PR ix = some f_nextTo) (hf : PR f = some (f_fitsWalk iw ix)) (hn : 2 ≤ n) (m : Int) (ps : List W3) (hps : ps.length ≤ 1000) (v : T) (hp : plain v = true) (hlv : (itT v).length ≤ 1000) :
    callP PR W n f [tFair m ps, v] = .ret (.bl (walkOk m ps v)) := by
  obtain ⟨n, rfl⟩ : ∃ k, n = k + 1 := ⟨n - 1, by omega⟩
  refine s_run hf rfl ?_
  show exec _ _ [some (tFair m ps), some v, none, none, none, none] = _
  have h1 : den ⟨callP PR W n, W⟩ (.not (.bi .istup (.cons (.var 1) .nil))) [some (tFair m ps), some v, none, none, none, none] = .ret (.bl (!isTup v)) := d_not (d_bi1 (x := v) rfl (istup_ev hp))
  cases ht : isTup v with
  | false =>
    rw [ht] at h1
    rw [show walkOk m ps v = false by unfold walkOk; rw [ht]; rfl]
    exact xs_yes (by rw [den_or, h1]; rfl) (xs_ret rfl)
  | true =>
    rw [ht] at h1
    obtain ⟨xs, rfl⟩ := isTup_of ht
    have px : plainL xs = true := hp
    have hl : xs.length ≤ lim := lim_le (Nat.le_trans hlv (by decide))
    have h2 : den ⟨callP PR W n, W⟩ (.cmp .eq (.var 1) (.tup .nil)) [some (tFair m ps), some (.tup xs), none, none, none, none] = .ret (.bl xs.isEmpty) := d_cmp (x := .tup xs) (y := .tup []) rfl rfl (ceqt px)
    have h3 : den ⟨callP PR W n, W⟩ (.not (.bi .all (.cons (.lc (.n 2) (.var 1) (.con (.bl true)) [2] (.call iw (.cons (.var 2) (.cons (.con (.int 0)) (.cons (.bin .sub (.idx (.var 0) (.con (.int 0))) (.con (.int 1))) .nil))))) .nil))) [some (tFair m ps), some (.tup xs), none, none, none, none] = .ret (.bl (!xs.all fun x => whole x 0 (m - 1))) := by
      refine d_not (d_bi1 (lc_mapA id xs (fun x => [some (tFair m ps), some (.tup xs), some x, none, none, none]) (fun x => .bl (whole x 0 (m - 1))) (t := .tup xs) rfl (by rw [List.map_id]; rfl) hl ?_) (all_map (fun x => whole x 0 (m - 1)) xs))
      intro x hx
      exact ⟨rfl, d_call3 (x := x) (y := .int 0) (z := .int (m - 1)) rfl rfl (d_bin (x := .int m) (y := .int 1) rfl rfl rfl) (p_whole hw (by omega) x 0 (m - 1) (plainL_mem px hx))⟩
    have h4 := d_or h1 fun _ => d_or h2 fun _ => h3
    have e : (!true || (xs.isEmpty || !xs.all fun x => whole x 0 (m - 1))) = !(!xs.isEmpty && xs.all fun x => whole x 0 (m - 1)) := by
      cases xs.isEmpty <;> cases (xs.all fun x => whole x 0 (m - 1)) <;> rfl
    rw [e] at h4
    show exec _ (f_fitsWalk iw ix).body _ = .ret (.rt (.bl (true && (!xs.isEmpty && xs.all fun x => whole x 0 (m - 1)) && risB (fun a b => adjB ps (zT a) (zT b)) xs)))
    cases hab : (!xs.isEmpty && xs.all fun x => whole x 0 (m - 1)) with
    | false =>
      rw [hab] at h4
      exact xs_yes h4 (xs_ret rfl)
    | true =>
      rw [hab] at h4
      obtain ⟨_, k2⟩ := Bool.and_eq_true_iff.mp hab
      obtain ⟨zs, rfl, hz⟩ := ints_of k2
      rw [List.length_map] at hl
      refine xs_no h4 (xs_ret ?_)
      rw [risB_map]
      refine d_bi1 (lc_mapA (fun p : Int × Int => t2 p) (zs.zip zs.tail) (fun p => [some (tFair m ps), some (tI zs), some (.int p.1), none, none, some (.int p.2)]) (fun p => .bl (adjB ps p.1 p.2)) (t := .lst ((zs.zip zs.tail).map t2)) ?_ ?_ ?_ ?_) ((all_map (fun p : Int × Int => adjB ps p.1 p.2) _).trans rfl)
      · exact d_zip2 (x := tI zs) (y := .tup ((zs.map T.int).drop 1)) rfl (d_slc (x := tI zs) (l := some 1) (h := none) rfl rfl rfl (show M.ret (T.tup (cutT (zs.map T.int) (some ((1 : Nat) : Int)) none)) = _ by rw [cut_drop])) (zipL_tail T.int zs)
      · rfl
      · rw [List.length_zip]; exact Nat.le_trans (Nat.min_le_left _ _) hl
      · intro p hp
        refine ⟨rfl, d_cmp (x := .int p.2) (y := .lst (((sortK kq (nx ps p.1)).map (·.1)).map T.int)) rfl ?_ ?_⟩
        · rw [List.map_map]
          refine lc_mapA t2 (sortK kq (nx ps p.1)) (fun q => [some (tFair m ps), some (tI zs), some (.int p.1), some (.int q.1), some (.int q.2), some (.int p.2)]) (fun q => .int q.1) (t := .lst ((sortK kq (nx ps p.1)).map t2)) ?_ ?_ ?_ ?_
          · exact d_call2 (x := tFair m ps) (y := .int p.1) rfl rfl (p_nextTo hx (by omega) m ps p.1 hps)
          · rfl
          · rw [(sortK_perm kq _).length_eq]
            exact lim_le (Nat.le_trans (nx_len ps p.1) (by omega))
          · intro q _
            exact ⟨rfl, rfl⟩
        · rw [cin_lstI]
          unfold adjB
          congr 3
          exact propext ((sortK_perm kq (nx ps p.1)).map (·.1)).mem_iff
end
end Py

set_option linter.all false
set_option autoImplicit false
set_option maxRecDepth 100000
namespace Py
section
variable {C : Cx} {env : Env}
theorem w0_eq {α : Type} {m m' : M α} {Q : α → Prop} (h : m = m') (k : W0 m' Q) : W0 m Q := by rw [h]; exact k
theorem w0_orE {a b : Py.E} {Q : T → Prop} (h : den C a env = .ret (.bl false)) (k : W0 (den C b env) fun t => ∃ x, t = .bl x ∧ Q (.bl x)) : W0 (den C (.or a b) env) Q := by
  rw [den_or, h]
  simp only [bind_ret, asB_bl, Bool.false_eq_true, if_false]
  exact w0_bind.mpr (k.mono fun t ⟨x, e, q⟩ => by subst e; exact w0_val q)
theorem w0_cmpE {o : Cop} {a b : Py.E} {Q : T → Prop} (h : W0 (den C a env) fun x => W0 (den C b env) fun y => W0 (cmpM o x y) Q) : W0 (den C (.cmp o a b) env) Q := by
  rw [den_cmp]
  exact w0_bind.mpr (h.mono fun x hx => w0_bind.mpr hx)
theorem w0_lcB {tgt : Tgt} {it c el : Py.E} {own : List Nat} {Q : T → Prop} (h : W0 (den C it env) fun t => W0 (den C (.lc tgt (.con t) c own el) env) Q) : W0 (den C (.lc tgt it c own el) env) Q := by
  show W0 ((den C it env).bind _) Q
  exact w0_bind.mpr (h.mono fun t ht => ht)
theorem w0_iteE {c a b : Py.E} {x : Bool} {Q : T → Prop} (h : den C c env = .ret (.bl x)) (k : if x = true then W0 (den C a env) Q else W0 (den C b env) Q) : W0 (den C (.ite c a b) env) Q := by
  rw [den_ite, h]
  simp only [bind_ret, asB_bl]
  cases x
  · exact k
  · exact k
theorem w0_idxE {a b : Py.E} {y : T} {Q : T → Prop} (h2 : den C b env = .ret y) (h : W0 (den C a env) fun x => W0 (idxM x y) Q) : W0 (den C (.idx a b) env) Q := by
  rw [den_idx]
  refine w0_bind.mpr (h.mono fun x hx => ?_)
  rw [h2]; exact hx
theorem tp1 {a : Py.E} {x : T} (h : den C a env = .ret x) : den C (.tup (.cons a .nil)) env = .ret (.tup [x]) := d_tup (d_cons h rfl) (by show 1 ≤ lim; decide)
theorem tp2 {a b : Py.E} {x y : T} (h : den C a env = .ret x) (h2 : den C b env = .ret y) : den C (.tup (.cons a (.cons b .nil))) env = .ret (.tup [x, y]) := d_tup (d_cons h (d_cons h2 rfl)) (by show 2 ≤ lim; decide)
theorem tp3 {a b c : Py.E} {x y z : T} (h : den C a env = .ret x) (h2 : den C b env = .ret y) (h3 : den C c env = .ret z) : den C (.tup (.cons a (.cons b (.cons c .nil)))) env = .ret (.tup [x, y, z]) := d_tup (d_cons h (d_cons h2 (d_cons h3 rfl))) (by show 3 ≤ lim; decide)
theorem tp4 {a b c d : Py.E} {x y z w : T} (h : den C a env = .ret x) (h2 : den C b env = .ret y) (h3 : den C c env = .ret z) (h4 : den C d env = .ret w) : den C (.tup (.cons a (.cons b (.cons c (.cons d .nil))))) env = .ret (.tup [x, y, z, w]) := d_tup (d_cons h (d_cons h2 (d_cons h3 (d_cons h4 rfl)))) (by show 4 ≤ lim; decide)
theorem ls1 {a : Py.E} {x : T} (h : den C a env = .ret x) : den C (.lst (.cons a .nil)) env = .ret (.lst [x]) := d_lst (d_cons h rfl) (by show 1 ≤ lim; decide)
theorem ls2 {a b : Py.E} {x y : T} (h : den C a env = .ret x) (h2 : den C b env = .ret y) : den C (.lst (.cons a (.cons b .nil))) env = .ret (.lst [x, y]) := d_lst (d_cons h (d_cons h2 rfl)) (by show 2 ≤ lim; decide)
theorem ls3 {a b c : Py.E} {x y z : T} (h : den C a env = .ret x) (h2 : den C b env = .ret y) (h3 : den C c env = .ret z) : den C (.lst (.cons a (.cons b (.cons c .nil)))) env = .ret (.lst [x, y, z]) := d_lst (d_cons h (d_cons h2 (d_cons h3 rfl))) (by show 3 ≤ lim; decide)
theorem nilt : den C (.tup .nil) env = .ret (.tup []) := d_tup rfl (by show 0 ≤ lim; decide)
theorem nill : den C (.lst .nil) env = .ret (.lst []) := d_lst rfl (by show 0 ≤ lim; decide)
end
theorem plainL_of : ∀ {xs : List T}, (∀ x ∈ xs, plain x = true) → plainL xs = true
  | [], _ => rfl
  | x :: xs, h => by
    show (plain x && plainL xs) = true
    rw [h x (.head _), plainL_of fun y hy => h y (.tail _ hy)]; rfl
theorem plainL_sub {xs ys : List T} (h : plainL xs = true) (s : ∀ y ∈ ys, y ∈ xs) : plainL ys = true := plainL_of fun y hy => plainL_mem h (s y hy)
theorem plainL_app {xs ys : List T} (h : plainL xs = true) (h2 : plainL ys = true) : plainL (xs ++ ys) = true := plainL_of fun y hy => by
  rcases List.mem_append.mp hy with z | z
  · exact plainL_mem h z
  · exact plainL_mem h2 z
theorem add_tup {xs ys : List T} (h : xs.length + ys.length ≤ 1000000) : opM .add (.tup xs) (.tup ys) = .ret (.tup (xs ++ ys)) := by
  show (if (xs ++ ys).length ≤ lim then M.ret (T.tup (xs ++ ys)) else .stuck) = _
  exact if_pos (by rw [List.length_append]; exact lim_le (by omega))
theorem add_lst {xs ys : List T} (h : xs.length + ys.length ≤ 1000000) : opM .add (.lst xs) (.lst ys) = .ret (.lst (xs ++ ys)) := by
  show (if (xs ++ ys).length ≤ lim then M.ret (T.lst (xs ++ ys)) else .stuck) = _
  exact if_pos (by rw [List.length_append]; exact lim_le (by omega))
theorem filter_none {α : Type} {p : α → Bool} {l : List α} (h : ∀ x ∈ l, p x = false) : l.filter p = [] := List.filter_eq_nil_iff.mpr fun x hx => by rw [h x hx]; simp
def cutG {α : Type} (xs : List α) (lo hi : Option Int) : List α := (xs.drop (slIx xs.length 0 lo)).take (slIx xs.length xs.length hi - slIx xs.length 0 lo)
theorem cutT_map {α : Type} (f : α → T) (xs : List α) (lo hi : Option Int) : cutT (xs.map f) lo hi = (cutG xs lo hi).map f := by
  unfold cutT cutG
  rw [List.length_map, List.map_take, List.map_drop]
theorem cutG_mem {α : Type} {xs : List α} {lo hi : Option Int} {y : α} (h : y ∈ cutG xs lo hi) : y ∈ xs := List.mem_of_mem_drop (List.mem_of_mem_take h)
theorem cutG_len {α : Type} (xs : List α) (lo hi : Option Int) : (cutG xs lo hi).length ≤ xs.length := by
  unfold cutG
  rw [List.length_take, List.length_drop]; omega
section
variable {C : Cx} {env : Env}
theorem step_of {x : Tgt} {t : T} {bd : S} {e1 : Env} {Q : Env → Prop} (h : bindT x t env = .ret e1) (k : ∃ e2, exec C bd e1 = .ret (.nx e2) ∧ Q e2) : ∃ e1 e2, bindT x t env = .ret e1 ∧ exec C bd e1 = .ret (.nx e2) ∧ Q e2 := by
  obtain ⟨e2, h1, h2⟩ := k
  exact ⟨e1, e2, h, h1, h2⟩
theorem xe_asg {i : Nat} {e : E} {b : S} {t : T} {Q : Env → Prop} (h : den C e env = .ret t) (k : ∃ e2, exec C b (setv env i t) = .ret (.nx e2) ∧ Q e2) : ∃ e2, exec C (.seq (.asg i e) b) env = .ret (.nx e2) ∧ Q e2 := by
  obtain ⟨e2, h1, h2⟩ := k
  exact ⟨e2, xs_asg h h1, h2⟩
theorem xe_skip {Q : Env → Prop} (h : Q env) : ∃ e2, exec C .skip env = .ret (.nx e2) ∧ Q e2 := ⟨env, rfl, h⟩
theorem xe_for {α : Type} {x : Tgt} {it : E} {bd b : S} {t : T} {Q : Env → Prop} (inj : α → T) (xs : List α) (I : List α → Env → Prop) (h : den C it env = .ret t) (ht : itemsS t = .ret (xs.map inj)) (h0 : I [] env)
    (step : ∀ p y q e, p ++ y :: q = xs → I p e → ∃ e1 e2, bindT x (inj y) e = .ret e1 ∧ exec C bd e1 = .ret (.nx e2) ∧ I (p ++ [y]) e2)
    (k : ∀ e, I xs e → ∃ e2, exec C b e = .ret (.nx e2) ∧ Q e2) : ∃ e2, exec C (.seq (.for_ x it bd) b) env = .ret (.nx e2) ∧ Q e2 := by
  obtain ⟨e', h1, h2⟩ := forL_pre (tgt := bindT x) (body := exec C bd) inj I xs [] env h0 (fun p y q e z => step p y q e z)
  obtain ⟨e2, h3, h4⟩ := k e' h2
  refine ⟨e2, ?_, h4⟩
  simp only [exec_seq, exec_for, h, ht, bind_ret, h1]
  exact h3
/-- v[1:] -/
theorem d_tail {a : Py.E} {xs : List T} (h : den C a env = .ret (.tup xs)) : den C (.slc a (.con (.int 1)) (.con .non)) env = .ret (.tup (xs.drop 1)) :=
  d_slc (x := .tup xs) (l := some 1) (h := none) h rfl rfl (show M.ret (T.tup (cutT xs (some ((1 : Nat) : Int)) none)) = _ by rw [cut_drop])
end
end Py

set_option linter.all false
set_option autoImplicit false
set_option maxRecDepth 100000
namespace Py
section
variable {C : Cx} {env : Env}
theorem forL_or {α : Type} {tgt : T → Env → M Env} {body : Env → M R} {Qt : T → Prop} (inj : α → T) (I : List α → Env → Prop) : ∀ (post pre : List α) (env : Env), I pre env →
    (∀ p x q e, p ++ x :: q = pre ++ post → I p e → ∃ e1, tgt (inj x) e = .ret e1 ∧ ((∃ e2, body e1 = .ret (.nx e2) ∧ I (p ++ [x]) e2) ∨ ∃ t, body e1 = .ret (.rt t) ∧ Qt t)) →
    (∃ env', forL tgt body (post.map inj) env = .ret (.nx env') ∧ I (pre ++ post) env') ∨ ∃ t, forL tgt body (post.map inj) env = .ret (.rt t) ∧ Qt t
  | [], pre, env, h, _ => .inl ⟨env, rfl, by rwa [List.append_nil]⟩
  | x :: post, pre, env, h, step => by
    obtain ⟨e1, h1, ⟨e2, h2, h3⟩ | ⟨t, h2, h3⟩⟩ := step pre x post env rfl h
    · have ih := forL_or (tgt := tgt) (body := body) (Qt := Qt) inj I post (pre ++ [x]) e2 h3 (fun p y q e z => step p y q e (by rw [z]; simp))
      have eq : forL tgt body ((x :: post).map inj) env = forL tgt body (post.map inj) e2 := by simp only [List.map_cons, forL, h1, h2, bind_ret]
      rw [eq]
      rw [List.append_assoc] at ih
      exact ih
    · exact .inr ⟨t, by simp only [List.map_cons, forL, h1, h2, bind_ret], h3⟩
/-- a loop that may return -/
theorem xo_for {α : Type} {x : Tgt} {it : E} {bd b : S} {t : T} {Qt : T → Prop} (inj : α → T) (xs : List α) (I : List α → Env → Prop) (h : den C it env = .ret t) (ht : itemsS t = .ret (xs.map inj)) (h0 : I [] env)
    (step : ∀ p y q e, p ++ y :: q = xs → I p e → ∃ e1, bindT x (inj y) e = .ret e1 ∧ ((∃ e2, exec C bd e1 = .ret (.nx e2) ∧ I (p ++ [y]) e2) ∨ ∃ t, exec C bd e1 = .ret (.rt t) ∧ Qt t))
    (k : ∀ e, I xs e → ∃ t, exec C b e = .ret (.rt t) ∧ Qt t) : ∃ t, exec C (.seq (.for_ x it bd) b) env = .ret (.rt t) ∧ Qt t := by
  rcases forL_or (tgt := bindT x) (body := exec C bd) (Qt := Qt) inj I xs [] env h0 (fun p y q e z => step p y q e z) with ⟨e', h1, h2⟩ | ⟨t, h1, h2⟩
  · obtain ⟨t, h3, h4⟩ := k e' h2
    refine ⟨t, ?_, h4⟩
    simp only [exec_seq, exec_for, h, ht, bind_ret, h1]
    exact h3
  · refine ⟨t, ?_, h2⟩
    simp only [exec_seq, exec_for, h, ht, bind_ret, h1]
theorem whileL_or {c : Env → M T} {body : Env → M R} {Q : Env → Prop} {Qt : T → Prop} (J : Nat → Env → Prop)
    (step : ∀ k e, J k e → (c e = .ret (.bl true) ∧ ((∃ e2 k', k' < k ∧ body e = .ret (.nx e2) ∧ J k' e2) ∨ ∃ t, body e = .ret (.rt t) ∧ Qt t)) ∨ (c e = .ret (.bl false) ∧ Q e)) :
    ∀ (n k : Nat) (e : Env), k < n → J k e → (∃ e', whileL c body n e = .ret (.nx e') ∧ Q e') ∨ ∃ t, whileL c body n e = .ret (.rt t) ∧ Qt t
  | 0, k, e, h, _ => by omega
  | n + 1, k, e, h, j => by
    unfold whileL
    rcases step k e j with ⟨h1, h2⟩ | ⟨h1, h2⟩
    · rw [h1]
      simp only [bind_ret, asB_bl, if_true]
      rcases h2 with ⟨e2, k', hk, h3, h4⟩ | ⟨t, h3, h4⟩
      · rw [h3]
        simp only [bind_ret]
        exact whileL_or J step n k' e2 (by omega) h4
      · rw [h3]
        exact .inr ⟨t, rfl, h4⟩
    · rw [h1]
      exact .inl ⟨e, rfl, h2⟩
/-- a while that may return -/
theorem xo_whl {c : E} {bd : S} {Q : Env → Prop} {Qt : T → Prop} (J : Nat → Env → Prop) (k : Nat) (hk : k < C.W) (h0 : J k env)
    (step : ∀ k e, J k e → (den C c e = .ret (.bl true) ∧ ((∃ e2 k', k' < k ∧ exec C bd e = .ret (.nx e2) ∧ J k' e2) ∨ ∃ t, exec C bd e = .ret (.rt t) ∧ Qt t)) ∨ (den C c e = .ret (.bl false) ∧ Q e)) :
    (∃ e', exec C (.seq (.whl c bd) .skip) env = .ret (.nx e') ∧ Q e') ∨ ∃ t, exec C (.seq (.whl c bd) .skip) env = .ret (.rt t) ∧ Qt t := by
  rcases whileL_or (c := den C c) (body := exec C bd) J step C.W k env hk h0 with ⟨e', h1, h2⟩ | ⟨t, h1, h2⟩
  · exact .inl ⟨e', by simp only [exec_seq, exec_whl, h1, bind_ret, exec_skip], h2⟩
  · exact .inr ⟨t, by simp only [exec_seq, exec_whl, h1, bind_ret], h2⟩
/-- x = o.pop() -/
theorem xs_pop {i j : Nat} {b : S} {xs : List T} {x : T} {m : M R} (hc : getv env i = .ret (.lst (xs ++ [x]))) (k : exec C b (setv (setv env i (.lst xs)) j x) = m) : exec C (.seq (.popT (.n j) i) b) env = m := by
  have hp : popM (.lst (xs ++ [x])) = .ret (x, .lst xs) := by
    show (match (xs ++ [x])[(xs ++ [x]).length - 1]? with | some y => M.ret (y, T.lst (xs ++ [x]).dropLast) | none => .stuck) = _
    rw [List.length_append, List.length_singleton, Nat.add_sub_cancel, List.getElem?_append_right (Nat.le_refl _), Nat.sub_self, List.dropLast_concat]
    rfl
  have e : exec C (.popT (.n j) i) env = .ret (.nx (setv (setv env i (.lst xs)) j x)) := by
    show ((getv env i).bind fun c => (popM c).bind fun p => (bindT (.n j) p.1 (setv env i p.2)).bind fun env => M.ret (R.nx env)) = _
    rw [hc, bind_ret, hp]; rfl
  rw [exec_seq, e]
  exact k
theorem xs_ext {i : Nat} {e : E} {b : S} {xs ys : List T} {m : M R} (hc : getv env i = .ret (.lst xs)) (he : den C e env = .ret (.lst ys)) (hl : xs.length + ys.length ≤ lim) (k : exec C b (setv env i (.lst (xs ++ ys))) = m) : exec C (.seq (.ext i e) b) env = m := by
  have hx : extM (.lst xs) (.lst ys) = .ret (.lst (xs ++ ys)) := if_pos (by rw [List.length_append]; exact hl)
  rw [exec_seq, exec_ext, hc, bind_ret, he, bind_ret, hx]
  exact k
end
theorem cin_tupI (L : List Int) (j : Int) : cmpM .isin (.int j) (tI L) = .ret (.bl (decide (j ∈ L))) := by
  show (inM (.int j) (.tup (L.map T.int))).bind _ = _
  have : inM (.int j) (.tup (L.map T.int)) = .ret (decide (j ∈ L)) := by
    show (if (plainL (L.map T.int) && plain (.int j) && decide (min (depL (L.map T.int)) (dep (.int j)) ≤ 60)) = true then M.ret ((L.map T.int).any fun y => eqT y (.int j)) else .stuck) = _
    rw [plainL_int, depL_int, any_int]
    rfl
  rw [this]; rfl
theorem ordAll_tI {xs : List (List Int)} (h : ∀ x ∈ xs, x ≠ []) : ordAll (xs.map tI) = true := by
  unfold ordAll
  rw [plainL_tI, decide_eq_true (show depL (xs.map tI) ≤ 60 by have := depL_tI xs; omega)]
  simp only [Bool.true_and, Bool.and_eq_true, Bool.or_eq_true, List.all_map, List.all_eq_true]
  refine ⟨fun a _ => List.all_eq_true.mpr fun b _ => alike_tI a b, .inl fun a ha => ?_⟩
  cases a with
  | nil => exact absurd rfl (h _ ha)
  | cons x r => rfl
theorem sorted_tI {xs : List (List Int)} (h : ∀ x ∈ xs, x ≠ []) : biM .sorted [.lst (xs.map tI)] = .ret (.lst ((sortK id xs).map tI)) := by
  show (if ordAll (xs.map tI) = true then M.ret (T.lst (sortT (xs.map tI))) else .stuck) = _
  rw [if_pos (ordAll_tI h), sortT_key tI id (fun a b => ltT_tI a b)]
def z1 (z : Int) : List Int := [z]
theorem ltI_one (a b : Int) : ltI (z1 a) (z1 b) = decide (a < b) := by
  show (if a = b then ltI [] [] else decide (a < b)) = _
  by_cases h : a = b
  · rw [if_pos h, decide_eq_false (by omega)]; rfl
  · rw [if_neg h]
theorem sorted_int (xs : List Int) : biM .sorted [.lst (xs.map T.int)] = .ret (.lst ((sortK z1 xs).map T.int)) := by
  have h : ordAll (xs.map T.int) = true := by
    unfold ordAll
    rw [plainL_int, decide_eq_true (show depL (xs.map T.int) ≤ 60 by rw [depL_int]; omega)]
    simp only [Bool.true_and, Bool.and_eq_true, Bool.or_eq_true, List.all_map, List.all_eq_true]
    exact ⟨fun a _ => List.all_eq_true.mpr fun b _ => rfl, .inr fun a ha => rfl⟩
  show (if ordAll (xs.map T.int) = true then M.ret (T.lst (sortT (xs.map T.int))) else .stuck) = _
  rw [if_pos h, sortT_key T.int z1 (fun a b => by rw [ltI_one]; rfl)]
/-- sorted, and none twice: each is less than the next -/
theorem sorted_risI : ∀ {l : List (List Int)}, SortedK id l → l.Nodup → risB ltI l = true
  | [], _, _ => rfl
  | [x], _, _ => rfl
  | x :: y :: l, h, d => by
    have ih := sorted_risI (l := y :: l) h.2 (List.nodup_cons.mp d).2
    have hx : x ≠ y := fun z => (List.nodup_cons.mp d).1 (by rw [z]; exact .head _)
    show (ltI x y && risB ltI (y :: l)) = true
    rw [ih, Bool.and_true]
    cases e : ltI x y with
    | true => rfl
    | false => exact absurd (ltI_tot _ _ e (h.1 y (.head _))) hx
/-- two sorted lists with the same members, none twice -/
theorem sorted_uniq : ∀ {a b : List (List Int)}, SortedK id a → SortedK id b → a.Nodup → b.Nodup → (∀ x, x ∈ a ↔ x ∈ b) → a = b
  | [], [], _, _, _, _, _ => rfl
  | [], y :: b, _, _, _, _, h => by have := (h y).mpr (.head _); cases this
  | x :: a, [], _, _, _, _, h => by have := (h x).mp (.head _); cases this
  | x :: a, y :: b, ha, hb, da, db, h => by
    obtain ⟨a1, a2⟩ := List.nodup_cons.mp da
    obtain ⟨b1, b2⟩ := List.nodup_cons.mp db
    have e : x = y := by
      rcases List.mem_cons.mp ((h x).mp (.head _)) with z | z
      · exact z
      · rcases List.mem_cons.mp ((h y).mpr (.head _)) with w | w
        · exact w.symm
        · exact ltI_tot x y (hb.1 x z) (ha.1 y w)
    subst e
    rw [sorted_uniq ha.2 hb.2 a2 b2 fun z => ⟨fun hz => ?_, fun hz => ?_⟩]
    · rcases List.mem_cons.mp ((h z).mp (.tail _ hz)) with w | w
      · rw [w] at hz; exact absurd hz a1
      · exact w
    · rcases List.mem_cons.mp ((h z).mpr (.tail _ hz)) with w | w
      · rw [w] at hz; exact absurd hz b1
      · exact w
def mt (D : List (List Int)) : List (T × T) := D.map fun d => (tI d, T.bl true)
def putL (D : List (List Int)) (d : List Int) : List (List Int) := if d ∈ D then D else D ++ [d]
theorem putL_nodup {D : List (List Int)} {d : List Int} (h : D.Nodup) : (putL D d).Nodup := by
  unfold putL
  split
  · exact h
  · rename_i n
    exact List.nodup_append.mpr ⟨h, by simp, fun a ha b hb => by rw [List.mem_singleton.mp hb]; exact fun z => n (z ▸ ha)⟩
theorem putL_mem {D : List (List Int)} {d x : List Int} (h : x ∈ putL D d) : x ∈ D ∨ x = d := by
  unfold putL at h
  split at h
  · exact .inl h
  · simpa using h
theorem putL_len (D : List (List Int)) (d : List Int) : (putL D d).length ≤ D.length + 1 := by
  unfold putL
  split
  · omega
  · rw [List.length_append]; simp
theorem set_mt {D : List (List Int)} {d : List Int} (h : D.length < lim) : setI (.dct (mt D)) (tI d) (.bl true) = .ret (.dct (mt (putL D d))) := by
  have ft : fits (mt D) (tI d) = true := by
    unfold fits
    rw [show keyOk (tI d) = true from List.all_eq_true.mpr fun x hx => by obtain ⟨z, _, rfl⟩ := List.mem_map.mp hx; rfl, Bool.true_and, List.all_eq_true]
    intro p hp
    obtain ⟨e, _, rfl⟩ := List.mem_map.mp hp
    rfl
  have hp : dput (mt D) (tI d) (.bl true) = mt (putL D d) := by
    unfold dput putL
    have ha : ((mt D).any fun p => eqT p.1 (tI d)) = decide (d ∈ D) := by
      unfold mt
      rw [List.any_map, Bool.eq_iff_iff, List.any_eq_true, decide_eq_true_eq]
      constructor
      · rintro ⟨x, hx, e⟩
        have e : eqT (tI x) (tI d) = true := e
        rw [eqT_tI, decide_eq_true_eq] at e
        exact e ▸ hx
      · intro hd
        exact ⟨d, hd, by show eqT (tI d) (tI d) = true; rw [eqT_tI]; simp⟩
    rw [ha]
    by_cases e : d ∈ D
    · rw [if_pos (decide_eq_true e), if_pos e]
      unfold mt
      rw [List.map_map]
      refine List.map_congr_left fun x _ => ?_
      show (if eqT (tI x) (tI d) = true then (tI x, T.bl true) else (tI x, T.bl true)) = _
      split <;> rfl
    · rw [if_neg (by simpa using e), if_neg e]
      unfold mt
      rw [List.map_append]; rfl
  show (if (fits (mt D) (tI d) && decide ((mt D).length < lim)) = true then M.ret (T.dct (dput (mt D) (tI d) (.bl true))) else .stuck) = _
  rw [ft, decide_eq_true (show (mt D).length < lim by unfold mt; rw [List.length_map]; exact h), hp]
  rfl
theorem sorted_mt {D : List (List Int)} (h : ∀ x ∈ D, x ≠ []) : biM .sorted [.dct (mt D)] = .ret (.lst ((sortK id D).map tI)) := by
  have e : (mt D).map (·.1) = D.map tI := by unfold mt; rw [List.map_map]; rfl
  show (if ordAll ((mt D).map (·.1)) = true then M.ret (T.lst (sortT ((mt D).map (·.1)))) else .stuck) = _
  rw [e, if_pos (ordAll_tI h), sortT_key tI id (fun a b => ltT_tI a b)]
theorem nodup_perm {α : Type} : ∀ {l r : List α}, l.Nodup → (∀ x ∈ l, x ∈ r) → r.length ≤ l.length → r.Perm l
  | [], r, _, _, h => by
    rw [List.length_eq_zero_iff.mp (Nat.le_zero.mp h)]
  | x :: l, r, d, s, h => by
    obtain ⟨d1, d2⟩ := List.nodup_cons.mp d
    obtain ⟨a, b, rfl⟩ := List.append_of_mem (s x (.head _))
    have p : (a ++ x :: b).Perm (x :: (a ++ b)) := List.perm_middle
    refine p.trans (List.Perm.cons x (nodup_perm d2 (fun y hy => ?_) ?_))
    · have := p.mem_iff.mp (s y (.tail _ hy))
      rcases List.mem_cons.mp this with z | z
      · rw [z] at hy; exact absurd hy d1
      · exact z
    · simp at h ⊢; omega
theorem nodup_len {α : Type} : ∀ {l r : List α}, l.Nodup → (∀ x ∈ l, x ∈ r) → l.length ≤ r.length
  | [], r, _, _ => Nat.zero_le _
  | x :: l, r, d, s => by
    obtain ⟨d1, d2⟩ := List.nodup_cons.mp d
    obtain ⟨a, b, rfl⟩ := List.append_of_mem (s x (.head _))
    have p : (a ++ x :: b).Perm (x :: (a ++ b)) := List.perm_middle
    have := nodup_len (l := l) (r := a ++ b) d2 fun y hy => by
      rcases List.mem_cons.mp (p.mem_iff.mp (s y (.tail _ hy))) with z | z
      · rw [z] at hy; exact absurd hy d1
      · exact z
    simp at this ⊢; omega
theorem lim_le' {n : Nat} (h : n < 16777216) : n < lim := h
section
variable {C : Cx} {env : Env}
/-- o[k] = v where the key is drawn -/
theorem ws_setiK {i : Nat} {k e : E} {b : S} {c v : T} {Q : R → Prop} (he : den C e env = .ret v) (hc : getv env i = .ret c) (h : W0 (den C k env) fun kk => ∃ c', setI c kk v = .ret c' ∧ W0 (exec C b (setv env i c')) Q) : W0 (exec C (.seq (.seti i k e) b) env) Q := by
  rw [exec_seq, exec_seti, he, bind_ret, hc, bind_ret]
  refine w0_bind.mpr (w0_bind.mpr (h.mono fun kk ⟨c', h1, h2⟩ => ?_))
  rw [h1, bind_ret]
  exact w0_val h2
end
end Py

set_option linter.all false
set_option autoImplicit false
set_option maxRecDepth 100000
namespace Py.K31
abbrev D := List Int
def hits (c d : D) : Nat := (c.filter fun x => decide (x ∈ d)).length
def hitB (h : Int) (c d : D) : Bool := decide (h ≤ (hits c d : Int))
def MS (ds : List D) (h : Int) (cs : List D) : List D := ds.filter fun d => !(cs.any fun c => hitB h c d)
theorem mem_MS {ds : List D} {h : Int} {cs : List D} {d : D} : d ∈ MS ds h cs ↔ d ∈ ds ∧ ∀ c ∈ cs, hitB h c d = false := by
  unfold MS
  rw [List.mem_filter, Bool.not_eq_true', List.any_eq_false]
  simp
theorem MS_nil {ds : List D} {h : Int} {cs : List D} : MS ds h cs = [] ↔ ∀ d ∈ ds, ∃ c ∈ cs, hitB h c d = true := by
  rw [List.eq_nil_iff_forall_not_mem]
  constructor
  · intro z d hd
    have := z d
    rw [mem_MS] at this
    refine Classical.byContradiction fun ne => this ⟨hd, fun c hc => ?_⟩
    cases e : hitB h c d with
    | false => rfl
    | true => exact absurd ⟨c, hc, e⟩ ne
  · intro z d hd
    obtain ⟨h1, h2⟩ := mem_MS.mp hd
    obtain ⟨c, hc, e⟩ := z d h1
    rw [h2 c hc] at e; cases e
/-- draws that have all -/
structure Cov (ds : List D) (h : Int) (C : List D) : Prop where
  sub : ∀ c ∈ C, c ∈ ds
  all : MS ds h C = []
/-- an entry of the stack -/
structure En (ds : List D) (L : Nat) (p : List D) : Prop where
  nd : p.Nodup
  sub : ∀ c ∈ p, c ∈ ds
  le : p.length ≤ L
def kids (ds : List D) (h : Int) (p : List D) (d : D) : List (List D) := (ds.filter fun c => hitB h c d).map fun c => p ++ [c]
/-- the stack keeps a way to each lot that has all -/
def Way (ds : List D) (h : Int) (L : Nat) (s : List (List D)) : Prop := ∀ C, Cov ds h C → C.length ≤ L → ∃ p ∈ s, ∀ c ∈ p, c ∈ C
def wt (L : Nat) (s : List (List D)) : Nat := (s.map fun p => 21 ^ (L - p.length)).sum
theorem kid_ok {ds : List D} {h : Int} {L : Nat} {p : List D} {d : D} (e : En ds L p) (hd : d ∈ MS ds h p) (hl : p.length < L) : ∀ q ∈ kids ds h p d, En ds L q := by
  intro q hq
  obtain ⟨c, hc, rfl⟩ := List.mem_map.mp hq
  obtain ⟨h1, h2⟩ := List.mem_filter.mp hc
  refine ⟨List.nodup_append.mpr ⟨e.nd, by simp, fun a ha b hb => ?_⟩, fun a ha => ?_, by rw [List.length_append]; simp; omega⟩
  · rw [List.mem_singleton.mp hb]
    intro z
    rw [z] at ha
    rw [(mem_MS.mp hd).2 c ha] at h2; cases h2
  · rcases List.mem_append.mp ha with z | z
    · exact e.sub a z
    · rw [List.mem_singleton.mp z]; exact h1
theorem wt_kids {ds : List D} {h : Int} {L : Nat} {p : List D} {d : D} (hn : ds.length ≤ 20) (hl : p.length < L) : wt L (kids ds h p d) < 21 ^ (L - p.length) := by
  have e : L - p.length = (L - (p.length + 1)) + 1 := by omega
  have hf : (ds.filter fun c => hitB h c d).length ≤ 20 := Nat.le_trans (List.length_filter_le _ _) hn
  have key : ∀ l : List D, wt L (l.map fun c => p ++ [c]) = l.length * 21 ^ (L - (p.length + 1)) := by
    intro l
    induction l with
    | nil => simp [wt]
    | cons c l ih =>
      have : wt L ((c :: l).map fun c => p ++ [c]) = 21 ^ (L - (p ++ [c]).length) + wt L (l.map fun c => p ++ [c]) := by simp [wt]
      rw [this, ih, List.length_append, List.length_singleton, List.length_cons, Nat.succ_mul]
      omega
  unfold kids
  rw [key, e, Nat.pow_succ]
  have h1 : (ds.filter fun c => hitB h c d).length * 21 ^ (L - (p.length + 1)) ≤ 20 * 21 ^ (L - (p.length + 1)) := Nat.mul_le_mul_right _ hf
  have h2 : 0 < 21 ^ (L - (p.length + 1)) := Nat.pow_pos (by decide)
  omega
theorem wt_app (L : Nat) (a b : List (List D)) : wt L (a ++ b) = wt L a + wt L b := by simp [wt]
theorem way_next {ds : List D} {h : Int} {L : Nat} {s : List (List D)} {p : List D} {d : D} {r : List D} (e : En ds L p) (w : Way ds h L (s ++ [p])) (hm : MS ds h p = d :: r) : Way ds h L (s ++ if p.length < L then kids ds h p d else []) := by
  intro C hC hl
  have hd : d ∈ MS ds h p := by rw [hm]; exact .head _
  obtain ⟨q, hq, hs⟩ := w C hC hl
  rcases List.mem_append.mp hq with z | z
  · exact ⟨q, List.mem_append_left _ z, hs⟩
  · have := List.mem_singleton.mp z
    subst this
    obtain ⟨d1, d2⟩ := mem_MS.mp hd
    obtain ⟨c, hc, hh⟩ := MS_nil.mp hC.all d d1
    have hcp : c ∉ q := fun z => by rw [d2 c z] at hh; cases hh
    have hlt : q.length < L := by
      refine Classical.byContradiction fun ne => ?_
      have pm := nodup_perm e.nd hs (by omega)
      exact hcp (pm.mem_iff.mp hc)
    rw [if_pos hlt]
    refine ⟨q ++ [c], List.mem_append_right _ (List.mem_map.mpr ⟨c, List.mem_filter.mpr ⟨hC.sub c hc, hh⟩, rfl⟩), fun a ha => ?_⟩
    rcases List.mem_append.mp ha with z | z
    · exact hs a z
    · rw [List.mem_singleton.mp z]; exact hc
/-- the fewest that have all -/
structure Few (ds : List D) (h : Int) (p : List D) : Prop where
  nd : p.Nodup
  sub : ∀ c ∈ p, c ∈ ds
  all : MS ds h p = []
  le : ∀ C, Cov ds h C → p.length ≤ C.length
def subsZ (l : List Int) : List D := l.foldl (fun f x => f ++ f.map (· ++ [x])) [[]]
def ballsZ (b : Nat) : List Int := (List.range b).map fun i : Nat => (i : Int)
def FD (b s : Nat) : List D := (subsZ (ballsZ b)).filter fun d => decide (d.length = s)
def DR (b s : Nat) : List D := sortK id (FD b s)
theorem subsZ_snoc (l : List Int) (x : Int) : subsZ (l ++ [x]) = subsZ l ++ (subsZ l).map (· ++ [x]) := by
  unfold subsZ; rw [List.foldl_append]; rfl
theorem ballsZ_succ (b : Nat) : ballsZ (b + 1) = ballsZ b ++ [(b : Int)] := by
  unfold ballsZ; rw [List.range_succ, List.map_append]; rfl
/-- .. as the program finds them -/
def PK (s b : Nat) : List D := (subsZ (ballsZ b)).filter fun d => decide (d.length ≤ s)
theorem PK_succ (s b : Nat) : PK s (b + 1) = PK s b ++ ((PK s b).filter fun d => decide (d.length < s)).map (· ++ [(b : Int)]) := by
  unfold PK
  rw [ballsZ_succ, subsZ_snoc, List.filter_append, List.filter_filter, List.filter_map]
  congr 2
  refine List.filter_congr fun d _ => ?_
  show decide ((d ++ [(b : Int)]).length ≤ s) = (decide (d.length < s) && decide (d.length ≤ s))
  rw [List.length_append, List.length_singleton, ← Bool.decide_and]
  exact decide_eq_decide.mpr (by omega)
theorem PK_end (s b : Nat) : ((PK s b).filter fun d => decide (d.length = s)) = FD b s := by
  unfold PK FD
  rw [List.filter_filter]
  refine List.filter_congr fun d _ => ?_
  rw [← Bool.decide_and]
  exact decide_eq_decide.mpr (by omega)
theorem subsZ_len : ∀ b, (subsZ (ballsZ b)).length = 2 ^ b
  | 0 => rfl
  | b + 1 => by
    rw [ballsZ_succ, subsZ_snoc, List.length_append, List.length_map, subsZ_len b, Nat.pow_succ]; omega
def bs : List (Nat × Nat) := [(1, 1), (2, 1), (2, 2), (3, 1), (3, 2), (3, 3), (4, 1), (4, 2), (4, 3), (4, 4), (5, 1), (5, 2), (5, 3), (5, 4), (5, 5), (6, 1), (6, 2), (6, 3), (6, 4), (6, 5), (6, 6)]
theorem mem_bs {b s : Nat} (h1 : 1 ≤ s) (h2 : s ≤ b) (h3 : b ≤ 6) : (b, s) ∈ bs := by
  have : ∀ b : Fin 7, ∀ s : Fin 7, 1 ≤ s.val → s.val ≤ b.val → (b.val, s.val) ∈ bs := by decide
  exact this ⟨b, by omega⟩ ⟨s, by omega⟩ h1 h2
/-- each ball one further, the last becomes the first; sorted -/
def rotN (b : Nat) (x : Int) : Int := if x + 1 = (b : Int) then 0 else x + 1
def rot (b : Nat) (d : D) : D := sortK z1 (d.map (rotN b))
def nodupB : List D → Bool
  | [] => true
  | x :: l => !(decide (x ∈ l)) && nodupB l
theorem nodupB_ok : ∀ {l : List D}, nodupB l = true → l.Nodup
  | [], _ => List.Pairwise.nil
  | x :: l, h => by
    unfold nodupB at h
    rw [Bool.and_eq_true, Bool.not_eq_true', decide_eq_false_iff_not] at h
    exact List.nodup_cons.mpr ⟨h.1, nodupB_ok h.2⟩
def chk1 (p : Nat × Nat) : Bool :=
  let ds := DR p.1 p.2
  decide (ds.length ≤ 20) && decide (0 < ds.length) && nodupB ds && ds.all (fun d => decide (d.length = p.2) && risB (fun a b : Int => decide (a < b)) d && d.all fun x => decide (0 ≤ x) && decide (x < (p.1 : Int)))
def chk2 (p : Nat × Nat) : Bool :=
  let ds := DR p.1 p.2
  ds.all fun c => ds.all fun d => decide (hits c d < p.2) || decide (c = d)
def chk3 (p : Nat × Nat) : Bool :=
  let ds := DR p.1 p.2
  let rs := ds.map (rot p.1)
  (rs.all fun r => decide (r ∈ ds)) && nodupB rs && ((ds.zip rs).all fun c => (ds.zip rs).all fun d => decide (hits c.2 d.2 = hits c.1 d.1))
def chk4 (p : Nat × Nat) : Bool :=
  let ds := DR p.1 p.2
  ds.all fun d => decide (hits d d = p.2)
def chk5 (p : Nat × Nat) : Bool := decide (2 * p.2 ≤ p.1) || (MS (DR p.1 p.2) 1 ((DR p.1 p.2).take 1)).isEmpty
theorem all1 : bs.all chk1 = true := by decide +kernel
theorem all2 : bs.all chk2 = true := by decide +kernel
theorem all3 : bs.all chk3 = true := by decide +kernel
theorem all4 : bs.all chk4 = true := by decide +kernel
theorem all5 : bs.all chk5 = true := by decide +kernel
/-- five lots of draws -/
def noOne (b s : Nat) (h : Int) : Bool := (DR b s).all fun c => !(MS (DR b s) h [c]).isEmpty
def noTwo (b s : Nat) (h : Int) : Bool := (DR b s).all fun c => (DR b s).all fun d => !(MS (DR b s) h [c, d]).isEmpty
def isTwo (b s : Nat) (h : Int) : Bool := (DR b s).any fun c => (DR b s).any fun d => (MS (DR b s) h [c, d]).isEmpty
theorem t631 : noOne 6 3 1 = true ∧ isTwo 6 3 1 = true := by decide +kernel
theorem t632 : noOne 6 3 2 = true ∧ isTwo 6 3 2 = true := by decide +kernel
theorem t521 : noOne 5 2 1 = true ∧ isTwo 5 2 1 = true := by decide +kernel
theorem t621 : noTwo 6 2 1 = true ∧ (MS (DR 6 2) 1 [[0, 1], [2, 3], [4, 5]]).isEmpty = true := by decide +kernel
theorem t642 : (MS (DR 6 4) 2 [[0, 1, 2, 3]]).isEmpty = true := by decide +kernel
/-- numbers of balls, sizes of cards, hits -/
structure Tri (b s h : Nat) : Prop where
  b6 : b ≤ 6
  sb : s ≤ b
  h1 : 1 ≤ h
  hs : h ≤ s
section
variable {b s h : Nat}
theorem Tri.mem (t : Tri b s h) : (b, s) ∈ bs := mem_bs (by have := t.h1; have := t.hs; omega) t.sb t.b6
theorem Tri.c1 (t : Tri b s h) : (DR b s).length ≤ 20 ∧ 0 < (DR b s).length ∧ (DR b s).Nodup ∧ ∀ d ∈ DR b s, d.length = s ∧ risB (fun a b : Int => decide (a < b)) d = true ∧ ∀ x ∈ d, 0 ≤ x ∧ x < (b : Int) := by
  have := List.all_eq_true.mp all1 _ t.mem
  simp only [chk1, Bool.and_eq_true, decide_eq_true_eq, List.all_eq_true] at this
  obtain ⟨⟨⟨h1, h2⟩, h3⟩, h4⟩ := this
  exact ⟨h1, h2, nodupB_ok h3, fun d hd => ⟨(h4 d hd).1.1, (h4 d hd).1.2, (h4 d hd).2⟩⟩
theorem Tri.c2 (t : Tri b s h) {c d : D} (hc : c ∈ DR b s) (hd : d ∈ DR b s) (e : hitB s c d = true) : c = d := by
  have := List.all_eq_true.mp all2 _ t.mem
  simp only [chk2, List.all_eq_true, Bool.or_eq_true, decide_eq_true_eq] at this
  have e := of_decide_eq_true e
  rcases this c hc d hd with z | z
  · omega
  · exact z
theorem Tri.self (t : Tri b s h) {d : D} (hd : d ∈ DR b s) : hitB h d d = true := by
  have := List.all_eq_true.mp all4 _ t.mem
  simp only [chk4, List.all_eq_true, decide_eq_true_eq] at this
  have := this d hd
  have := t.hs
  exact decide_eq_true (by omega)
theorem Tri.cov (t : Tri b s h) : Cov (DR b s) h (DR b s) := ⟨fun _ z => z, MS_nil.mpr fun d hd => ⟨d, hd, t.self hd⟩⟩
theorem Tri.ne (t : Tri b s h) : MS (DR b s) h [] ≠ [] := fun z => by
  have := t.c1.2.1
  have e : MS (DR b s) h [] = DR b s := by unfold MS; simp
  rw [e] at z
  rw [z] at this; simp at this
theorem zip_map_mem {α β : Type} {f : α → β} {l : List α} {x : α} (h : x ∈ l) : (x, f x) ∈ l.zip (l.map f) := by
  induction l with
  | nil => cases h
  | cons y l ih =>
    rcases List.mem_cons.mp h with rfl | h
    · exact .head _
    · exact .tail _ (ih h)
theorem Tri.c3 (t : Tri b s h) : (∀ d ∈ DR b s, rot b d ∈ DR b s) ∧ ((DR b s).map (rot b)).Nodup ∧ ∀ c ∈ DR b s, ∀ d ∈ DR b s, hits (rot b c) (rot b d) = hits c d := by
  have := List.all_eq_true.mp all3 _ t.mem
  simp only [chk3, List.all_eq_true, Bool.and_eq_true, decide_eq_true_eq] at this
  obtain ⟨⟨h1, h2⟩, h3⟩ := this
  exact ⟨fun d hd => h1 _ (List.mem_map.mpr ⟨d, hd, rfl⟩), nodupB_ok h2, fun c hc d hd => h3 _ (zip_map_mem hc) _ (zip_map_mem hd)⟩
theorem Tri.len (t : Tri b s h) {p : List D} (e : Few (DR b s) h p) : 1 ≤ p.length ∧ p.length ≤ 20 := by
  refine ⟨?_, Nat.le_trans (e.le _ t.cov) t.c1.1⟩
  rcases Nat.eq_zero_or_pos p.length with z | z
  · have := List.length_eq_zero_iff.mp z
    subst this
    exact absurd e.all t.ne
  · exact z
/-- hits are as many as the size: all draws -/
theorem few_all (t : Tri b s s) {p : List D} (e : Few (DR b s) s p) : p.Perm (DR b s) := by
  refine nodup_perm t.c1.2.2.1 (fun d hd => ?_) (e.le _ t.cov)
  obtain ⟨c, hc, hh⟩ := MS_nil.mp e.all d hd
  rw [← t.c2 (e.sub c hc) hd hh]; exact hc
theorem few_mono (t : Tri b s h) {k : Nat} (hk : k ≤ h) {p q : List D} (e : Few (DR b s) h p) (f : Few (DR b s) k q) : q.length ≤ p.length :=
  f.le p ⟨e.sub, MS_nil.mpr fun d hd => by
    obtain ⟨c, hc, hh⟩ := MS_nil.mp e.all d hd
    have hh := of_decide_eq_true hh
    exact ⟨c, hc, decide_eq_true (by omega)⟩⟩
theorem isEmpty_nil {α : Type} {l : List α} (h : l.isEmpty = true) : l = [] := by cases l with
  | nil => rfl
  | cons _ _ => cases h
theorem few_one (t : Tri b s 1) (h2 : b < 2 * s) {p : List D} (e : Few (DR b s) (1 : Nat) p) : p.length = 1 := by
  have := List.all_eq_true.mp all5 _ t.mem
  simp only [chk5, Bool.or_eq_true, decide_eq_true_eq] at this
  rcases this with z | z
  · omega
  · have := e.le _ ⟨fun c hc => List.mem_of_mem_take hc, isEmpty_nil z⟩
    rw [List.length_take] at this
    have := (t.len e).1
    omega
theorem few_two (t : Tri b s h) (h1 : noOne b s h = true) (h2 : isTwo b s h = true) {p : List D} (e : Few (DR b s) h p) : p.length = 2 := by
  obtain ⟨l1, _⟩ := t.len e
  unfold isTwo at h2
  obtain ⟨c, hc, h2⟩ := List.any_eq_true.mp h2
  obtain ⟨d, hd, h2⟩ := List.any_eq_true.mp h2
  have := e.le [c, d] ⟨fun x hx => by
    simp only [List.mem_cons, List.not_mem_nil, or_false] at hx
    rcases hx with rfl | rfl
    · exact hc
    · exact hd, isEmpty_nil h2⟩
  have l2 : p.length ≤ 2 := this
  match p, e, l1, l2 with
  | [x], e, _, _ =>
    have := List.all_eq_true.mp h1 x (e.sub x (.head _))
    rw [e.all] at this; cases this
  | [x, y], _, _, _ => rfl
theorem few_621 (t : Tri 6 2 1) {p : List D} (e : Few (DR 6 2) (1 : Nat) p) : p.length = 3 := by
  obtain ⟨l1, _⟩ := t.len e
  have l2 : p.length ≤ 3 := e.le [[0, 1], [2, 3], [4, 5]] ⟨by decide +kernel, isEmpty_nil t621.2⟩
  match p, e, l1, l2 with
  | [x], e, _, _ =>
    have := List.all_eq_true.mp (List.all_eq_true.mp t621.1 x (e.sub x (.head _))) x (e.sub x (.head _))
    have e2 : MS (DR 6 2) 1 [x, x] = [] := MS_nil.mpr fun d hd => by
      obtain ⟨c, hc, hh⟩ := MS_nil.mp e.all d hd
      rw [List.mem_singleton.mp hc] at hh
      exact ⟨x, .head _, hh⟩
    rw [e2] at this; cases this
  | [x, y], e, _, _ =>
    have := List.all_eq_true.mp (List.all_eq_true.mp t621.1 x (e.sub x (.head _))) y (e.sub y (.tail _ (.head _)))
    have e2 : MS (DR 6 2) 1 [x, y] = [] := e.all
    rw [e2] at this; cases this
  | [x, y, z], _, _, _ => rfl
theorem few_642 (t : Tri 6 4 2) {p : List D} (e : Few (DR 6 4) (2 : Nat) p) : p.length = 1 := by
  have l2 : p.length ≤ 1 := e.le [[0, 1, 2, 3]] ⟨by decide +kernel, isEmpty_nil t642⟩
  have := (t.len e).1
  omega
/-- one card less does not do -/
theorem few_less {p : List D} (e : Few (DR b s) h p) {c : D} (hc : c ∈ p) : MS (DR b s) h (p.filter fun x => !decide (x = c)) ≠ [] := fun z => by
  have := e.le _ ⟨fun x hx => e.sub x (List.mem_filter.mp hx).1, z⟩
  have lt : (p.filter fun x => !decide (x = c)).length < p.length := by
    refine Nat.lt_of_le_of_ne (List.length_filter_le _ _) fun q => ?_
    have := List.length_filter_eq_length_iff.mp q c hc
    simp at this
  omega
end
end Py.K31

set_option maxHeartbeats 0
namespace Law
def c_is_whole : Py.Fn := ⟨3, 3,
  (.seq (.ret (.and (.bi .isint (.cons (.var 0) .nil)) (.and (.not (.bi .isbool (.cons (.var 0) .nil))) (.chain .le .le (.var 1) (.var 0) (.var 2)))))
  .skip)⟩
def c_is_tuple_of : Py.Fn := ⟨3, 3,
  (.seq (.ret (.and (.bi .istup (.cons (.var 0) .nil)) (.chain .le .le (.var 1) (.bi .len (.cons (.var 0) .nil)) (.var 2))))
  .skip)⟩
def c_is_rising : Py.Fn := ⟨1, 3,
  (.seq (.ret (.bi .all (.cons (.lc (.cons (.n 1) (.cons (.n 2) .nil)) (.zip2 (.var 0) (.slc (.var 0) (.con (.int 1)) (.con .non))) (.con (.bl true)) [1, 2] (.cmp .lt (.var 1) (.var 2))) .nil)))
  .skip)⟩
def c_picks : Py.Fn := ⟨2, 5,
  (.seq (.asg 2 (.lst (.cons (.tup .nil) .nil)))
  (.seq (.for_ (.n 3) (.rng1 (.var 0))
  (.seq (.asg 2 (.bin .add (.var 2) (.lc (.n 4) (.var 2) (.cmp .lt (.bi .len (.cons (.var 4) .nil)) (.var 1)) [4] (.bin .add (.var 4) (.tup (.cons (.var 3) .nil))))))
  .skip))
  (.seq (.ret (.bi .sorted (.cons (.lc (.n 4) (.var 2) (.cmp .eq (.bi .len (.cons (.var 4) .nil)) (.var 1)) [4] (.var 4)) .nil)))
  .skip)))⟩
def c_need_cards : Py.Fn := ⟨3, 3,
  (.seq (.ite (.not (.call 0 (.cons (.var 0) (.cons (.con (.int 1)) (.cons (.con (.int 6)) .nil)))))
  (.seq (.raise 0)
  .skip)
  .skip)
  (.seq (.ite (.not (.call 0 (.cons (.var 1) (.cons (.con (.int 1)) (.cons (.var 0) .nil)))))
  (.seq (.raise 0)
  .skip)
  .skip)
  (.seq (.ite (.not (.call 0 (.cons (.var 2) (.cons (.con (.int 1)) (.cons (.var 1) .nil)))))
  (.seq (.raise 0)
  .skip)
  .skip)
  .skip)))⟩
def c_hits_of : Py.Fn := ⟨2, 3,
  (.seq (.ret (.bi .len (.cons (.lc (.n 2) (.var 0) (.cmp .isin (.var 2) (.var 1)) [2] (.var 2)) .nil)))
  .skip)⟩
def c_missed_in : Py.Fn := ⟨3, 5,
  (.seq (.ret (.lc (.n 3) (.var 0) (.not (.bi .any (.cons (.lc (.n 4) (.var 2) (.con (.bl true)) [4] (.cmp .ge (.call 5 (.cons (.var 4) (.cons (.var 3) .nil))) (.var 1))) .nil))) [3] (.var 3)))
  .skip)⟩
def c_few_in : Py.Fn := ⟨2, 7,
  (.seq (.for_ (.n 2) (.rng2 (.con (.int 1)) (.bin .add (.bi .len (.cons (.var 0) .nil)) (.con (.int 1))))
  (.seq (.asg 3 (.lst (.cons (.tup .nil) .nil)))
  (.seq (.whl (.cmp .ne (.var 3) (.lst .nil))
  (.seq (.popT (.n 4) 3)
  (.seq (.asg 5 (.call 6 (.cons (.var 0) (.cons (.var 1) (.cons (.var 4) .nil)))))
  (.seq (.ite (.cmp .eq (.var 5) (.lst .nil))
  (.seq (.ret (.var 4))
  .skip)
  .skip)
  (.seq (.ite (.cmp .lt (.bi .len (.cons (.var 4) .nil)) (.var 2))
  (.seq (.ext 3 (.lc (.n 6) (.var 0) (.cmp .ge (.call 5 (.cons (.var 6) (.cons (.idx (.var 5) (.con (.int 0))) .nil))) (.var 1)) [6] (.bin .add (.var 4) (.tup (.cons (.var 6) .nil)))))
  .skip)
  .skip)
  .skip)))))
  .skip)))
  (.seq (.ret (.con .non))
  .skip))⟩
def c_fits_cards : Py.Fn := ⟨3, 5,
  (.seq (.ite (.or (.not (.call 1 (.cons (.var 2) (.cons (.con (.int 0)) (.cons (.con (.int 20)) .nil))))) (.not (.bi .all (.cons (.lc (.n 3) (.var 2) (.con (.bl true)) [3] (.call 1 (.cons (.var 3) (.cons (.var 1) (.cons (.var 1) .nil))))) .nil))))
  (.seq (.ret (.con (.bl false)))
  .skip)
  .skip)
  (.seq (.ite (.not (.bi .all (.cons (.lc2 (.n 3) (.var 2) (.con (.bl true)) (.n 4) [4] (.var 3) (.con (.bl true)) [3, 4] (.call 0 (.cons (.var 4) (.cons (.con (.int 0)) (.cons (.bin .sub (.var 0) (.con (.int 1))) .nil))))) .nil)))
  (.seq (.ret (.con (.bl false)))
  .skip)
  .skip)
  (.seq (.ret (.and (.bi .all (.cons (.lc (.n 3) (.var 2) (.con (.bl true)) [3] (.call 2 (.cons (.var 3) .nil))) .nil)) (.call 2 (.cons (.var 2) .nil))))
  .skip)))⟩
def c_missed : Py.Fn := ⟨4, 4,
  (.seq (.expr (.call 4 (.cons (.var 0) (.cons (.var 1) (.cons (.var 2) .nil)))))
  (.seq (.ite (.not (.call 8 (.cons (.var 0) (.cons (.var 1) (.cons (.var 3) .nil)))))
  (.seq (.raise 0)
  .skip)
  .skip)
  (.seq (.ret (.bi .tuple (.cons (.call 6 (.cons (.call 3 (.cons (.var 0) (.cons (.var 1) .nil))) (.cons (.var 2) (.cons (.var 3) .nil)))) .nil)))
  .skip)))⟩
def c_few_cards : Py.Fn := ⟨3, 3,
  (.seq (.expr (.call 4 (.cons (.var 0) (.cons (.var 1) (.cons (.var 2) .nil)))))
  (.seq (.ret (.bi .tuple (.cons (.bi .sorted (.cons (.call 7 (.cons (.call 3 (.cons (.var 0) (.cons (.var 1) .nil))) (.cons (.var 2) .nil))) .nil)) .nil)))
  .skip))⟩
def c_is_sure_set : Py.Fn := ⟨4, 4,
  (.seq (.expr (.call 4 (.cons (.var 0) (.cons (.var 1) (.cons (.var 2) .nil)))))
  (.seq (.ret (.and (.call 8 (.cons (.var 0) (.cons (.var 1) (.cons (.var 3) .nil)))) (.cmp .eq (.call 6 (.cons (.call 3 (.cons (.var 0) (.cons (.var 1) .nil))) (.cons (.var 2) (.cons (.var 3) .nil)))) (.lst .nil))))
  .skip))⟩
def c__law_some : Py.Fn := ⟨2, 2,
  (.seq (.ret (.idx (.var 1) (.roll (.var 0) (.bi .len (.cons (.var 1) .nil)))))
  .skip)⟩
def c__law_same : Py.Fn := ⟨2, 3,
  (.seq (.ite (.bi .istup (.cons (.var 1) .nil))
  (.seq (.ite (.or (.not (.bi .istup (.cons (.var 0) .nil))) (.cmp .ne (.bi .len (.cons (.var 0) .nil)) (.bi .len (.cons (.var 1) .nil))))
  (.seq (.ret (.con (.bl false)))
  .skip)
  .skip)
  (.seq (.ret (.bi .all (.cons (.lc (.n 2) (.rng1 (.bi .len (.cons (.var 1) .nil))) (.con (.bl true)) [2] (.call 13 (.cons (.idx (.var 0) (.var 2)) (.cons (.idx (.var 1) (.var 2)) .nil)))) .nil)))
  .skip))
  .skip)
  (.seq (.ite (.cmp .is (.var 1) (.con .non))
  (.seq (.ret (.cmp .is (.var 0) (.con .non)))
  .skip)
  .skip)
  (.seq (.ite (.bi .isbool (.cons (.var 1) .nil))
  (.seq (.ret (.ite (.var 1) (.cmp .is (.var 0) (.con (.bl true))) (.cmp .is (.var 0) (.con (.bl false)))))
  .skip)
  .skip)
  (.seq (.ite (.bi .isint (.cons (.var 1) .nil))
  (.seq (.ret (.and (.bi .isint (.cons (.var 0) .nil)) (.and (.not (.bi .isbool (.cons (.var 0) .nil))) (.cmp .eq (.bi .int (.cons (.var 0) .nil)) (.var 1)))))
  .skip)
  .skip)
  (.seq (.ret (.and (.bi .isstr (.cons (.var 0) .nil)) (.cmp .eq (.bi .str (.cons (.var 0) .nil)) (.var 1))))
  .skip)))))⟩
def c__law_subsets : Py.Fn := ⟨1, 4,
  (.seq (.asg 1 (.lst (.cons (.tup .nil) .nil)))
  (.seq (.for_ (.n 2) (.var 0)
  (.seq (.asg 1 (.bin .add (.var 1) (.lc (.n 3) (.var 1) (.con (.bl true)) [3] (.bin .add (.var 3) (.tup (.cons (.var 2) .nil))))))
  .skip))
  (.seq (.ret (.var 1))
  .skip)))⟩
def c__law_draws : Py.Fn := ⟨2, 3,
  (.seq (.ret (.bi .sorted (.cons (.lc (.n 2) (.call 14 (.cons (.rngs false (.rng1 (.var 0))) .nil)) (.cmp .eq (.bi .len (.cons (.var 2) .nil)) (.var 1)) [2] (.var 2)) .nil)))
  .skip)⟩
def c__law_hits : Py.Fn := ⟨2, 3,
  (.seq (.ret (.bi .len (.cons (.lc (.n 2) (.var 0) (.cmp .isin (.var 2) (.var 1)) [2] (.var 2)) .nil)))
  .skip)⟩
def c__law_missed : Py.Fn := ⟨4, 6,
  (.seq (.ret (.lc (.n 4) (.call 15 (.cons (.var 0) (.cons (.var 1) .nil))) (.cmp .eq (.lc (.n 5) (.var 3) (.cmp .ge (.call 16 (.cons (.var 5) (.cons (.var 4) .nil))) (.var 2)) [5] (.var 5)) (.lst .nil)) [4] (.var 4)))
  .skip)⟩
def c__law_some_cards : Py.Fn := ⟨3, 5,
  (.seq (.asg 3 .dnil)
  (.seq (.for_ (.n 4) (.rng1 (.roll (.var 0) (.bin .add (.var 2) (.con (.int 1)))))
  (.seq (.seti 3 (.call 12 (.cons (.var 0) (.cons (.var 1) .nil))) (.con (.bl true)))
  .skip))
  (.seq (.ret (.bi .tuple (.cons (.bi .sorted (.cons (.var 3) .nil)) .nil)))
  .skip)))⟩
def c__law_right : Py.Fn := ⟨1, 16,
  (.seq (.asg 1 (.bin .add (.con (.int 1)) (.roll (.var 0) (.con (.int 6)))))
  (.seq (.asg 2 (.bin .add (.con (.int 1)) (.roll (.var 0) (.var 1))))
  (.seq (.par [3, 4] (.cons (.bin .add (.con (.int 1)) (.roll (.var 0) (.var 2))) (.cons (.call 15 (.cons (.var 1) (.cons (.var 2) .nil))) .nil)))
  (.seq (.asg 5 (.call 18 (.cons (.var 0) (.cons (.var 4) (.cons (.con (.int 6)) .nil)))))
  (.seq (.asg 6 (.call 17 (.cons (.var 1) (.cons (.var 2) (.cons (.var 3) (.cons (.var 5) .nil))))))
  (.seq (.ite (.not (.call 13 (.cons (.tup (.cons (.call 9 (.cons (.var 1) (.cons (.var 2) (.cons (.var 3) (.cons (.var 5) .nil))))) (.cons (.call 11 (.cons (.var 1) (.cons (.var 2) (.cons (.var 3) (.cons (.var 5) .nil))))) .nil))) (.cons (.tup (.cons (.bi .tuple (.cons (.var 6) .nil)) (.cons (.cmp .eq (.var 6) (.lst .nil)) .nil))) .nil))))
  (.seq (.ret (.con (.bl false)))
  .skip)
  .skip)
  (.seq (.asg 7 (.call 10 (.cons (.var 1) (.cons (.var 2) (.cons (.var 3) .nil)))))
  (.seq (.ite (.or (.not (.bi .istup (.cons (.var 7) .nil))) (.or (.cmp .isnt (.call 11 (.cons (.var 1) (.cons (.var 2) (.cons (.var 3) (.cons (.var 7) .nil))))) (.con (.bl true))) (.cmp .ne (.call 9 (.cons (.var 1) (.cons (.var 2) (.cons (.var 3) (.cons (.var 7) .nil))))) (.tup .nil))))
  (.seq (.ret (.con (.bl false)))
  .skip)
  .skip)
  (.seq (.ite (.cmp .ne (.lc (.n 8) (.var 7) (.call 11 (.cons (.var 1) (.cons (.var 2) (.cons (.var 3) (.cons (.bi .tuple (.cons (.lc (.n 9) (.var 7) (.cmp .ne (.var 9) (.var 8)) [9] (.var 9)) .nil)) .nil))))) [8] (.var 8)) (.lst .nil))
  (.seq (.ret (.con (.bl false)))
  .skip)
  .skip)
  (.seq (.ite (.or (.and (.cmp .gt (.var 3) (.con (.int 1))) (.cmp .gt (.bi .len (.cons (.call 10 (.cons (.var 1) (.cons (.var 2) (.cons (.bin .sub (.var 3) (.con (.int 1))) .nil)))) .nil)) (.bi .len (.cons (.var 7) .nil)))) (.and (.cmp .eq (.var 6) (.lst .nil)) (.cmp .lt (.bi .len (.cons (.var 5) .nil)) (.bi .len (.cons (.var 7) .nil)))))
  (.seq (.ret (.con (.bl false)))
  .skip)
  .skip)
  (.seq (.asg 10 (.rngs false (.rng1 (.var 1))))
  (.seq (.asg 10 (.bin .add (.slc (.var 10) (.con (.int 1)) (.con .non)) (.slc (.var 10) (.con .non) (.con (.int 1)))))
  (.seq (.asg 11 (.bi .tuple (.cons (.bi .sorted (.cons (.lc (.n 8) (.var 5) (.con (.bl true)) [8] (.bi .tuple (.cons (.bi .sorted (.cons (.lc (.n 12) (.var 8) (.con (.bl true)) [12] (.idx (.var 10) (.var 12))) .nil)) .nil))) .nil)) .nil)))
  (.seq (.ite (.cmp .ne (.call 9 (.cons (.var 1) (.cons (.var 2) (.cons (.var 3) (.cons (.var 11) .nil))))) (.bi .tuple (.cons (.bi .sorted (.cons (.lc (.n 13) (.var 6) (.con (.bl true)) [13] (.bi .tuple (.cons (.bi .sorted (.cons (.lc (.n 12) (.var 13) (.con (.bl true)) [12] (.idx (.var 10) (.var 12))) .nil)) .nil))) .nil)) .nil)))
  (.seq (.ret (.con (.bl false)))
  .skip)
  .skip)
  (.seq (.asg 14 (.lst (.cons (.con .non) (.cons (.bi .list (.cons (.var 7) .nil)) (.cons (.bin .add (.var 7) (.tup (.cons (.con .non) .nil))) (.cons (.bin .add (.var 7) (.slc (.var 7) (.con .non) (.con (.int 1)))) (.cons (.ite (.cmp .gt (.bi .len (.cons (.var 7) .nil)) (.con (.int 1))) (.rev (.var 7)) (.con (.int 5))) (.cons (.tup (.cons (.rngs true (.rng1 (.bin .add (.var 2) (.con (.int 1))))) .nil)) .nil))))))))
  (.seq (.asg 14 (.bin .add (.var 14) (.lst (.cons (.tup (.cons (.bin .mul (.tup (.cons (.var 1) .nil)) (.var 2)) .nil)) (.cons (.tup (.cons (.bin .mul (.tup (.cons (.neg (.con (.int 1))) .nil)) (.var 2)) .nil)) (.cons (.tup (.cons (.rngs false (.rng1 (.var 2))) .nil)) (.cons (.tup (.cons (.bin .mul (.tup (.cons (.con (.bl true)) .nil)) (.var 2)) .nil)) (.cons (.tup (.cons (.bin .mul (.tup (.cons (.con (.str [48])) .nil)) (.var 2)) .nil)) .nil))))))))
  (.seq (.ite (.cmp .gt (.var 2) (.con (.int 1)))
  (.seq (.asg 14 (.bin .add (.var 14) (.lst (.cons (.tup (.cons (.rngd (.bin .sub (.var 2) (.con (.int 1))) (.neg (.con (.int 1)))) .nil)) (.cons (.tup (.cons (.bin .mul (.tup (.cons (.con (.int 0)) .nil)) (.var 2)) .nil)) .nil)))))
  .skip)
  .skip)
  (.seq (.ret (.cmp .eq (.lc (.n 15) (.var 14) (.cmp .isnt (.call 11 (.cons (.var 1) (.cons (.var 2) (.cons (.var 3) (.cons (.var 15) .nil))))) (.con (.bl false))) [15] (.var 15)) (.lst .nil)))
  .skip))))))))))))))))))⟩
def c__law_fewest_right : Py.Fn := ⟨1, 8,
  (.seq (.asgT (.cons (.n 1) (.cons (.n 2) (.cons (.n 3) .nil))) (.call 12 (.cons (.var 0) (.cons (.lst (.cons (.tup (.cons (.con (.int 3)) (.cons (.con (.int 2)) (.cons (.con (.int 1)) .nil)))) (.cons (.tup (.cons (.con (.int 4)) (.cons (.con (.int 2)) (.cons (.con (.int 1)) .nil)))) (.cons (.tup (.cons (.con (.int 4)) (.cons (.con (.int 2)) (.cons (.con (.int 2)) .nil)))) (.cons (.tup (.cons (.con (.int 4)) (.cons (.con (.int 3)) (.cons (.con (.int 2)) .nil)))) (.cons (.tup (.cons (.con (.int 5)) (.cons (.con (.int 2)) (.cons (.con (.int 1)) .nil)))) (.cons (.tup (.cons (.con (.int 5)) (.cons (.con (.int 3)) (.cons (.con (.int 2)) .nil)))) (.cons (.tup (.cons (.con (.int 5)) (.cons (.con (.int 4)) (.cons (.con (.int 3)) .nil)))) (.cons (.tup (.cons (.con (.int 4)) (.cons (.con (.int 1)) (.cons (.con (.int 1)) .nil)))) (.cons (.tup (.cons (.con (.int 5)) (.cons (.con (.int 1)) (.cons (.con (.int 1)) .nil)))) (.cons (.tup (.cons (.con (.int 6)) (.cons (.con (.int 5)) (.cons (.con (.int 4)) .nil)))) (.cons (.tup (.cons (.con (.int 6)) (.cons (.con (.int 1)) (.cons (.con (.int 1)) .nil)))) .nil)))))))))))) .nil))))
  (.seq (.par [4, 5] (.cons (.call 15 (.cons (.var 1) (.cons (.var 2) .nil))) (.cons (.call 10 (.cons (.var 1) (.cons (.var 2) (.cons (.var 3) .nil)))) .nil)))
  (.seq (.asg 6 (.lc (.n 7) (.call 14 (.cons (.var 4) .nil)) (.cmp .lt (.bi .len (.cons (.var 7) .nil)) (.bi .len (.cons (.var 5) .nil))) [7] (.var 7)))
  (.seq (.ret (.cmp .eq (.lc (.n 7) (.var 6) (.cmp .eq (.call 17 (.cons (.var 1) (.cons (.var 2) (.cons (.var 3) (.cons (.var 7) .nil))))) (.lst .nil)) [7] (.var 7)) (.lst .nil)))
  .skip))))⟩
def lawS : Py.S :=
  (.seq (.for_ (.n 2) (.rng1 (.con (.int 4)))
  (.seq (.ite (.not (.call 19 (.cons (.var 1) .nil)))
  (.seq (.ret (.con (.bl false)))
  .skip)
  .skip)
  .skip))
  (.seq (.ite (.not (.call 20 (.cons (.var 1) .nil)))
  (.seq (.ret (.con (.bl false)))
  .skip)
  .skip)
  (.seq (.asg 3 (.bin .add (.con (.int 1)) (.roll (.var 1) (.con (.int 6)))))
  (.seq (.asg 4 (.bin .add (.con (.int 1)) (.roll (.var 1) (.var 3))))
  (.seq (.asg 5 (.call 15 (.cons (.var 3) (.cons (.var 4) .nil))))
  (.seq (.ite (.or (.cmp .ne (.call 10 (.cons (.var 3) (.cons (.var 4) (.cons (.var 4) .nil)))) (.bi .tuple (.cons (.var 5) .nil))) (.and (.cmp .gt (.bin .mul (.con (.int 2)) (.var 4)) (.var 3)) (.cmp .ne (.bi .len (.cons (.call 10 (.cons (.var 3) (.cons (.var 4) (.cons (.con (.int 1)) .nil)))) .nil)) (.con (.int 1)))))
  (.seq (.ret (.con (.bl false)))
  .skip)
  .skip)
  (.seq (.asg 6 (.lc (.cons (.n 7) (.cons (.n 8) (.cons (.n 9) .nil))) (.tup (.cons (.tup (.cons (.con (.int 6)) (.cons (.con (.int 3)) (.cons (.con (.int 1)) .nil)))) (.cons (.tup (.cons (.con (.int 6)) (.cons (.con (.int 3)) (.cons (.con (.int 2)) .nil)))) (.cons (.tup (.cons (.con (.int 6)) (.cons (.con (.int 2)) (.cons (.con (.int 1)) .nil)))) (.cons (.tup (.cons (.con (.int 5)) (.cons (.con (.int 2)) (.cons (.con (.int 1)) .nil)))) (.cons (.tup (.cons (.con (.int 6)) (.cons (.con (.int 4)) (.cons (.con (.int 2)) .nil)))) .nil)))))) (.con (.bl true)) [7, 8, 9] (.bi .len (.cons (.call 10 (.cons (.var 7) (.cons (.var 8) (.cons (.var 9) .nil)))) .nil))))
  (.seq (.ret (.and (.cmp .eq (.var 6) (.lst (.cons (.con (.int 2)) (.cons (.con (.int 2)) (.cons (.con (.int 3)) (.cons (.con (.int 2)) (.cons (.con (.int 1)) .nil))))))) (.and (.cmp .eq (.call 9 (.cons (.con (.int 6)) (.cons (.con (.int 3)) (.cons (.con (.int 3)) (.cons (.tup .nil) .nil))))) (.bi .tuple (.cons (.call 15 (.cons (.con (.int 6)) (.cons (.con (.int 3)) .nil))) .nil))) (.cmp .eq (.call 10 (.cons (.con (.int 1)) (.cons (.con (.int 1)) (.cons (.con (.int 1)) .nil)))) (.tup (.cons (.tup (.cons (.con (.int 0)) .nil)) .nil))))))
  .skip))))))))
def fns : List Py.Fn := [c_is_whole, c_is_tuple_of, c_is_rising, c_picks, c_need_cards, c_hits_of, c_missed_in, c_few_in, c_fits_cards, c_missed, c_few_cards, c_is_sure_set, c__law_some, c__law_same, c__law_subsets, c__law_draws, c__law_hits, c__law_missed, c__law_some_cards, c__law_right, c__law_fewest_right]
def PR (i : Nat) : Option Py.Fn := fns[i]?
def lawN : Nat := 10
def lawC : Nat := 1
end Law
set_option linter.all false
set_option autoImplicit false
set_option maxRecDepth 100000
namespace Law
open Py Py.K31
abbrev tC (cs : List D) : T := .tup (cs.map tI)
abbrev lC (cs : List D) : T := .lst (cs.map tI)
theorem sorted_tIt {xs : List (List Int)} (h : ∀ x ∈ xs, x ≠ []) : biM .sorted [tC xs] = .ret (.lst ((sortK id xs).map tI)) := by
  show (if ordAll (xs.map tI) = true then M.ret (T.lst (sortT (xs.map tI))) else .stuck) = _
  rw [if_pos (ordAll_tI h), sortT_key tI id (fun a b => ltT_tI a b)]
section
variable {W n : Nat}
theorem s_whole (hn : 1 ≤ n) (v : T) (a b : Int) (hv : plain v = true) : callP PR W n 0 [v, .int a, .int b] = .ret (.bl (whole v a b)) := p_whole rfl hn v a b hv
theorem s_tupOf (hn : 1 ≤ n) (v : T) (a b : Int) (hv : plain v = true) : callP PR W n 1 [v, .int a, .int b] = .ret (.bl (tupOf v a b)) := p_tupOf rfl hn v a b hv
theorem s_same (t : T) (hn : dep t < n) (hg : good t = true) : callP PR W n 13 [t, t] = .ret (.bl true) := p_same (f := 13) rfl n t hn hg
theorem s_some (hn : 1 ≤ n) {xs : List T} {a : T} (ha : a = .lst xs ∨ a = .tup xs) {Q : T → Prop} (h0 : xs ≠ []) (h1 : xs.length < 1073741824) (h : ∀ x ∈ xs, Q x) : W0 (callP PR W n 12 [.cup, a]) Q := p_some (f := 12) rfl hn ha h0 h1 h
theorem s_need (hn : 2 ≤ n) {b s h : Nat} (t : Tri b s h) : callP PR W n 4 [.int (b : Int), .int (s : Int), .int (h : Int)] = .ret .non := by
  obtain ⟨n, rfl⟩ : ∃ k, n = k + 1 := ⟨n - 1, by omega⟩
  have := t.b6; have := t.sb; have := t.h1; have := t.hs
  refine s_runN (F := c_need_cards) (e := [some (.int (b : Int)), some (.int (s : Int)), some (.int (h : Int))]) rfl rfl ?_
  show exec _ _ [some (.int (b : Int)), some (.int (s : Int)), some (.int (h : Int))] = _
  refine xs_no (d_not' (x := true) (d_call3 rfl rfl rfl ((s_whole (by omega) (.int (b : Int)) 1 6 rfl).trans (by rw [whole_i (by omega) (by omega)]))) rfl) ?_
  refine xs_no (d_not' (x := true) (d_call3 rfl rfl rfl ((s_whole (by omega) (.int (s : Int)) 1 b rfl).trans (by rw [whole_i (by omega) (by omega)]))) rfl) ?_
  exact xs_no (d_not' (x := true) (d_call3 rfl rfl rfl ((s_whole (by omega) (.int (h : Int)) 1 s rfl).trans (by rw [whole_i (by omega) (by omega)]))) rfl) rfl
theorem p_hits {f : Nat} (hf : PR f = some c_hits_of) (hn : 1 ≤ n) {c d : D} (hc : c.length ≤ 1000) : callP PR W n f [tI c, tI d] = .ret (.int (hits c d : Nat)) := by
  obtain ⟨n, rfl⟩ : ∃ k, n = k + 1 := ⟨n - 1, by omega⟩
  refine s_run hf rfl ?_
  show exec _ _ [some (tI c), some (tI d), none] = _
  refine xs_ret (d_bi1 (x := .lst ((c.filter fun x => decide (x ∈ d)).map T.int)) (lc_evA T.int c (fun x => [some (tI c), some (tI d), some (.int x)]) (fun x => decide (x ∈ d)) T.int (t := tI c) rfl rfl (lim_le (by omega)) fun x _ => ⟨rfl, d_cmp (x := .int x) (y := tI d) rfl rfl (cin_tupI d x), fun _ => rfl⟩) ?_)
  show M.ret (T.int (((c.filter fun x => decide (x ∈ d)).map T.int).length : Nat)) = _
  rw [List.length_map]; rfl
theorem cge_nat (a : Nat) (h : Int) : cmpM .ge (.int (a : Int)) (.int h) = .ret (.bl (decide (h ≤ (a : Int)))) := cge_int _ _
theorem s_missed (hn : 2 ≤ n) {ds cs : List D} {h : Int} (hd : ds.length ≤ 1000) (hc : cs.length ≤ 1000) (hl : ∀ c ∈ cs, c.length ≤ 1000) : callP PR W n 6 [lC ds, .int h, tC cs] = .ret (lC (MS ds h cs)) := by
  obtain ⟨n, rfl⟩ : ∃ k, n = k + 1 := ⟨n - 1, by omega⟩
  refine s_run (F := c_missed_in) rfl rfl ?_
  show exec _ _ [some (lC ds), some (.int h), some (tC cs), none, none] = _
  refine xs_ret (lc_evA tI ds (fun d => [some (lC ds), some (.int h), some (tC cs), some (tI d), none]) (fun d => !(cs.any fun c => hitB h c d)) tI (t := lC ds) rfl rfl (lim_le (by omega)) fun d _ => ⟨rfl, d_not (d_bi1 (lc_mapA tI cs (fun c => [some (lC ds), some (.int h), some (tC cs), some (tI d), some (tI c)]) (fun c => .bl (hitB h c d)) (t := tC cs) rfl rfl (lim_le (by omega)) fun c hc' => ⟨rfl, d_cmp (x := .int (hits c d : Nat)) (y := .int h) (d_call2 (x := tI c) (y := tI d) rfl rfl (p_hits rfl (by omega) (hl c hc'))) rfl (cge_nat _ _)⟩) (any_map (fun c => hitB h c d) cs)), fun _ => rfl⟩)
theorem s_picks (hn : 1 ≤ n) {b s h : Nat} (t : Tri b s h) : callP PR W n 3 [.int (b : Int), .int (s : Int)] = .ret (lC (DR b s)) := by
  obtain ⟨n, rfl⟩ : ∃ k, n = k + 1 := ⟨n - 1, by omega⟩
  have h6 := t.b6; have := t.h1; have := t.hs
  have lP : ∀ k, k ≤ 6 → (PK s k).length ≤ 64 := fun k hk => by
    have h1 := List.length_filter_le (fun d : D => decide (d.length ≤ s)) (subsZ (ballsZ k))
    rw [subsZ_len] at h1
    have h2 : 2 ^ k ≤ 2 ^ 6 := Nat.pow_le_pow_right (by decide) hk
    exact Nat.le_trans h1 h2
  refine s_run (F := c_picks) rfl rfl ?_
  show exec _ _ [some (.int (b : Int)), some (.int (s : Int)), none, none, none] = _
  refine xs_asg (t := lC (PK s 0)) ?_ ?_
  · have : PK s 0 = [[]] := by unfold PK; simp [ballsZ, subsZ]
    rw [this]
    exact ls1 nilt
  refine xs_for (fun i : Nat => .int (i : Int)) (List.range b) (fun p e => ∃ x3 x4, e = [some (.int (b : Int)), some (.int (s : Int)), some (lC (PK s p.length)), x3, x4]) (d_rng1 (n := b) rfl (by omega)) rfl ⟨none, none, rfl⟩ ?_ ?_
  · rintro p y q e hp ⟨x3, x4, rfl⟩
    obtain ⟨rfl, hlt⟩ := prefix_range hp
    have l1 := lP p.length (by omega)
    refine ⟨[some (.int (b : Int)), some (.int (s : Int)), some (lC (PK s p.length)), some (.int (p.length : Int)), x4], _, rfl, xs_asg (t := lC (PK s (p ++ [p.length]).length)) ?_ rfl, _, _, rfl⟩
    rw [List.length_append, List.length_singleton, PK_succ]
    generalize hP : PK s p.length = P at l1
    have l2 := List.length_filter_le (fun d : D => decide (d.length < s)) P
    refine d_bin (x := lC P) (y := lC ((P.filter fun d => decide (d.length < s)).map (· ++ [(p.length : Int)]))) (by simp only [den_var, getv_succ, getv_zero]) ?_ (by rw [add_lst (by rw [List.length_map, List.length_map, List.length_map]; omega), ← List.map_append])
    show den _ _ _ = M.ret (T.lst (((P.filter fun d => decide (d.length < s)).map (· ++ [(p.length : Int)])).map tI))
    rw [List.map_map]
    refine lc_evA tI P (fun d => [some (.int (b : Int)), some (.int (s : Int)), some (lC P), some (.int (p.length : Int)), some (tI d)]) (fun d => decide (d.length < s)) (fun d => tI (d ++ [(p.length : Int)])) (t := lC P) (by simp only [den_var, getv_succ, getv_zero]) rfl (lim_le (by omega)) fun d hd => ⟨rfl, d_cmp (x := .int (d.length : Nat)) (y := .int (s : Int)) (d_bi1 (x := tI d) rfl (by show M.ret (T.int ((d.map T.int).length : Nat)) = _; rw [List.length_map])) rfl ((clt_int _ _).trans (by congr 2; exact decide_eq_decide.mpr (by omega))), fun _ => ?_⟩
    have hdl : d.length ≤ s := by
      rw [← hP] at hd
      exact of_decide_eq_true (List.mem_filter.mp hd).2
    refine d_bin (x := tI d) (y := tI [(p.length : Int)]) rfl (tp1 rfl) ?_
    rw [add_tup (by rw [List.length_map, List.length_map]; show d.length + 1 ≤ 1000000; have := t.sb; omega), ← List.map_append]
  · rintro e ⟨x3, x4, rfl⟩
    rw [List.length_range]
    have l1 := lP b h6
    refine xs_ret (d_bi1 (x := lC (FD b s)) ?_ (sorted_tI fun x hx => ?_))
    · rw [← PK_end]
      refine lc_evA tI (PK s b) (fun d => [some (.int (b : Int)), some (.int (s : Int)), some (lC (PK s b)), x3, some (tI d)]) (fun d => decide (d.length = s)) tI (t := lC (PK s b)) (by simp only [den_var, getv_succ, getv_zero]) rfl (lim_le (by omega)) fun d _ => ⟨rfl, d_cmp (x := .int (d.length : Nat)) (y := .int (s : Int)) (d_bi1 (x := tI d) (by simp only [den_var, getv_succ, getv_zero]) (by show M.ret (T.int ((d.map T.int).length : Nat)) = _; rw [List.length_map])) rfl ((ceq_int _ _).trans (by congr 2; exact decide_eq_decide.mpr (by omega))), fun _ => by simp only [den_var, getv_succ, getv_zero]⟩
    · have := of_decide_eq_true (List.mem_filter.mp hx).2
      exact fun z => by rw [z] at this; simp at this; omega
theorem cne_lC (xs : List T) (h : plainL xs = true) : cmpM .ne (.lst xs) (.lst []) = .ret (.bl (!xs.isEmpty)) := cnel h
theorem tC_plain (cs : List D) : plainL (cs.map tI) = true := plainL_tI cs
theorem lS_plain (s : List (List D)) : plainL (s.map tC) = true := plainL_of fun x hx => by
  obtain ⟨p, _, rfl⟩ := List.mem_map.mp hx
  exact tC_plain p
theorem snoc_of {α : Type} {s : List α} (h : s ≠ []) : ∃ s' p, s = s' ++ [p] := ⟨s.dropLast, s.getLast h, (List.dropLast_concat_getLast h).symm⟩
theorem few_loop (hn : 3 ≤ n) (hW : 21 ^ 20 < W) {b s h : Nat} (t : Tri b s h) {L : Nat} (hL : L ≤ 20) {x3 x4 x5 x6 : Option T} :
    (∃ e', exec ⟨callP PR W n, W⟩ (.seq (.asg 3 (.lst (.cons (.tup .nil) .nil)))
  (.seq (.whl (.cmp .ne (.var 3) (.lst .nil))
  (.seq (.popT (.n 4) 3)
  (.seq (.asg 5 (.call 6 (.cons (.var 0) (.cons (.var 1) (.cons (.var 4) .nil)))))
  (.seq (.ite (.cmp .eq (.var 5) (.lst .nil))
  (.seq (.ret (.var 4))
  .skip)
  .skip)
  (.seq (.ite (.cmp .lt (.bi .len (.cons (.var 4) .nil)) (.var 2))
  (.seq (.ext 3 (.lc (.n 6) (.var 0) (.cmp .ge (.call 5 (.cons (.var 6) (.cons (.idx (.var 5) (.con (.int 0))) .nil))) (.var 1)) [6] (.bin .add (.var 4) (.tup (.cons (.var 6) .nil)))))
  .skip)
  .skip)
  .skip)))))
  .skip)) [some (lC (DR b s)), some (.int (h : Int)), some (.int (L : Int)), x3, x4, x5, x6] = .ret (.nx e') ∧ (∃ y3 y4 y5 y6, e' = [some (lC (DR b s)), some (.int (h : Int)), some (.int (L : Int)), y3, y4, y5, y6]) ∧ ∀ C, Cov (DR b s) h C → ¬ C.length ≤ L) ∨
    ∃ r, exec ⟨callP PR W n, W⟩ (.seq (.asg 3 (.lst (.cons (.tup .nil) .nil)))
  (.seq (.whl (.cmp .ne (.var 3) (.lst .nil))
  (.seq (.popT (.n 4) 3)
  (.seq (.asg 5 (.call 6 (.cons (.var 0) (.cons (.var 1) (.cons (.var 4) .nil)))))
  (.seq (.ite (.cmp .eq (.var 5) (.lst .nil))
  (.seq (.ret (.var 4))
  .skip)
  .skip)
  (.seq (.ite (.cmp .lt (.bi .len (.cons (.var 4) .nil)) (.var 2))
  (.seq (.ext 3 (.lc (.n 6) (.var 0) (.cmp .ge (.call 5 (.cons (.var 6) (.cons (.idx (.var 5) (.con (.int 0))) .nil))) (.var 1)) [6] (.bin .add (.var 4) (.tup (.cons (.var 6) .nil)))))
  .skip)
  .skip)
  .skip)))))
  .skip)) [some (lC (DR b s)), some (.int (h : Int)), some (.int (L : Int)), x3, x4, x5, x6] = .ret (.rt r) ∧ ∃ p, r = tC p ∧ En (DR b s) L p ∧ MS (DR b s) h p = [] := by
  obtain ⟨d20, d0, dn, dm⟩ := t.c1
  have hsb := t.sb; have hb6 := t.b6
  generalize hds : DR b s = ds at d20 d0 dn dm
  have first : den ⟨callP PR W n, W⟩ (.lst (.cons (.tup .nil) .nil)) [some (lC ds), some (.int (h : Int)), some (.int (L : Int)), x3, x4, x5, x6] = .ret (.lst ([[]].map tC)) := ls1 nilt
  have go := xo_whl (C := ⟨callP PR W n, W⟩) (c := .cmp .ne (.var 3) (.lst .nil)) (bd := (.seq (.popT (.n 4) 3)
  (.seq (.asg 5 (.call 6 (.cons (.var 0) (.cons (.var 1) (.cons (.var 4) .nil)))))
  (.seq (.ite (.cmp .eq (.var 5) (.lst .nil))
  (.seq (.ret (.var 4))
  .skip)
  .skip)
  (.seq (.ite (.cmp .lt (.bi .len (.cons (.var 4) .nil)) (.var 2))
  (.seq (.ext 3 (.lc (.n 6) (.var 0) (.cmp .ge (.call 5 (.cons (.var 6) (.cons (.idx (.var 5) (.con (.int 0))) .nil))) (.var 1)) [6] (.bin .add (.var 4) (.tup (.cons (.var 6) .nil)))))
  .skip)
  .skip)
  .skip))))) (env := [some (lC ds), some (.int (h : Int)), some (.int (L : Int)), some (.lst ([[]].map tC)), x4, x5, x6]) (Q := fun e' => (∃ y3 y4 y5 y6, e' = [some (lC ds), some (.int (h : Int)), some (.int (L : Int)), y3, y4, y5, y6]) ∧ ∀ C, Cov ds h C → ¬ C.length ≤ L) (Qt := fun r => ∃ p, r = tC p ∧ En ds L p ∧ MS ds h p = [])
    (fun k e => ∃ (st : List (List D)) (y4 y5 y6 : Option T), e = [some (lC ds), some (.int (h : Int)), some (.int (L : Int)), some (.lst (st.map tC)), y4, y5, y6] ∧ (∀ p ∈ st, En ds L p) ∧ wt L st ≤ k ∧ Way ds h L st ∧ ∀ (i : Nat) (q : List D), st[i]? = some q → i ≤ 20 * q.length)
    (21 ^ 20) hW ⟨[[]], x4, x5, x6, rfl, fun p hp => by rw [List.mem_singleton.mp hp]; exact ⟨List.Pairwise.nil, fun _ z => (by cases z), Nat.zero_le _⟩, by
      have : wt L [[]] = 21 ^ L := by simp [wt]
      rw [this]; exact Nat.pow_le_pow_right (by decide) hL, fun C hC hl => ⟨[], .head _, fun _ z => (by cases z)⟩, fun i q hq => by
      match i, hq with
      | 0, _ => exact Nat.zero_le _⟩ ?_
  · rcases go with ⟨e', g1, g2⟩ | ⟨r, g1, g2⟩
    · refine .inl ⟨e', ?_, g2⟩
      exact xs_asg first g1
    · refine .inr ⟨r, ?_, g2⟩
      exact xs_asg first g1
  · rintro k e ⟨st, y4, y5, y6, rfl, hE, hk, hw, hlen⟩
    have hc : den ⟨callP PR W n, W⟩ (.cmp .ne (.var 3) (.lst .nil)) [some (lC ds), some (.int (h : Int)), some (.int (L : Int)), some (.lst (st.map tC)), y4, y5, y6] = .ret (.bl (!(st.map tC).isEmpty)) := d_cmp (x := .lst (st.map tC)) (y := .lst []) rfl nill (cne_lC _ (lS_plain st))
    by_cases hst : st = []
    · subst hst
      exact .inr ⟨hc, ⟨_, _, _, _, rfl⟩, fun C hC hl => by obtain ⟨p, hp, _⟩ := hw C hC hl; cases hp⟩
    · refine .inl ⟨hc.trans (by cases st with | nil => exact absurd rfl hst | cons _ _ => rfl), ?_⟩
      obtain ⟨st', p, rfl⟩ := snoc_of hst
      have eE := hE p (List.mem_append_right _ (.head _))
      have pl : p.length ≤ 20 := Nat.le_trans eE.le hL
      have cl : ∀ c ∈ p, c.length ≤ 1000 := fun c hc => by have := (dm c (eE.sub c hc)).1; omega
      have miss : callP PR W n 6 [lC ds, .int (h : Int), tC p] = .ret (lC (MS ds h p)) := s_missed (by omega) (by omega) (by omega) cl
      have hwt : wt L (st' ++ [p]) = wt L st' + 21 ^ (L - p.length) := by rw [wt_app]; simp [wt]
      have hpos : 0 < 21 ^ (L - p.length) := Nat.pow_pos (by decide)
      have ml : ((MS ds h p).map tI).isEmpty = (MS ds h p).isEmpty := by cases MS ds h p <;> rfl
      have hstl : st'.length ≤ 400 := by
        have := hlen st'.length p (by rw [List.getElem?_append_right (Nat.le_refl _), Nat.sub_self]; rfl)
        omega
      have hpre : ∀ (i : Nat) (q : List D), st'[i]? = some q → i ≤ 20 * q.length := fun i q hq => hlen i q (by
        rw [List.getElem?_append_left (List.getElem?_eq_some_iff.mp hq).1]; exact hq)
      have ev5 : ∀ (env : Env), getv env 5 = .ret (lC (MS ds h p)) → den ⟨callP PR W n, W⟩ (.cmp .eq (.var 5) (.lst .nil)) env = .ret (.bl (MS ds h p).isEmpty) := fun env he => d_cmp (x := lC (MS ds h p)) (y := .lst []) he nill ((ceql (tC_plain _)).trans (by rw [ml]))
      have start : ∀ m, exec ⟨callP PR W n, W⟩ (.seq (.ite (.cmp .eq (.var 5) (.lst .nil)) (.seq (.ret (.var 4)) .skip) .skip)
  (.seq (.ite (.cmp .lt (.bi .len (.cons (.var 4) .nil)) (.var 2))
  (.seq (.ext 3 (.lc (.n 6) (.var 0) (.cmp .ge (.call 5 (.cons (.var 6) (.cons (.idx (.var 5) (.con (.int 0))) .nil))) (.var 1)) [6] (.bin .add (.var 4) (.tup (.cons (.var 6) .nil)))))
  .skip)
  .skip)
  .skip)) [some (lC ds), some (.int (h : Int)), some (.int (L : Int)), some (.lst (st'.map tC)), some (tC p), some (lC (MS ds h p)), y6] = m → exec ⟨callP PR W n, W⟩ (.seq (.popT (.n 4) 3)
  (.seq (.asg 5 (.call 6 (.cons (.var 0) (.cons (.var 1) (.cons (.var 4) .nil)))))
  (.seq (.ite (.cmp .eq (.var 5) (.lst .nil)) (.seq (.ret (.var 4)) .skip) .skip)
  (.seq (.ite (.cmp .lt (.bi .len (.cons (.var 4) .nil)) (.var 2))
  (.seq (.ext 3 (.lc (.n 6) (.var 0) (.cmp .ge (.call 5 (.cons (.var 6) (.cons (.idx (.var 5) (.con (.int 0))) .nil))) (.var 1)) [6] (.bin .add (.var 4) (.tup (.cons (.var 6) .nil)))))
  .skip)
  .skip)
  .skip)))) [some (lC ds), some (.int (h : Int)), some (.int (L : Int)), some (.lst ((st' ++ [p]).map tC)), y4, y5, y6] = m := fun m hm => by
        refine xs_pop (i := 3) (j := 4) (xs := st'.map tC) (x := tC p) (by rw [List.map_append]; rfl) (xs_asg (t := lC (MS ds h p)) (d_call3 (x := lC ds) (y := .int (h : Int)) (z := tC p) rfl rfl rfl miss) hm)
      cases hm : MS ds h p with
      | nil =>
        refine .inr ⟨tC p, start _ ?_, p, rfl, eE, hm⟩
        exact xs_yes ((ev5 _ rfl).trans (by rw [hm]; rfl)) (xs_ret rfl)
      | cons d r =>
        have hd : d ∈ MS ds h p := by rw [hm]; exact .head _
        have hnx := way_next eE hw hm
        have lt : den ⟨callP PR W n, W⟩ (.cmp .lt (.bi .len (.cons (.var 4) .nil)) (.var 2)) [some (lC ds), some (.int (h : Int)), some (.int (L : Int)), some (.lst (st'.map tC)), some (tC p), some (lC (MS ds h p)), y6] = .ret (.bl (decide (p.length < L))) := d_cmp (x := .int (p.length : Nat)) (y := .int (L : Int)) (d_bi1 (x := tC p) rfl (by show M.ret (T.int ((p.map tI).length : Nat)) = _; rw [List.length_map])) rfl ((clt_int _ _).trans (by congr 2; exact decide_eq_decide.mpr (by omega)))
        by_cases hlt : p.length < L
        · rw [if_pos hlt] at hnx
          have kl : (kids ds h p d).length ≤ 20 := by
            unfold kids; rw [List.length_map]; exact Nat.le_trans (List.length_filter_le _ _) d20
          have hkw := wt_kids (ds := ds) (h := h) (d := d) d20 hlt
          refine .inl ⟨[some (lC ds), some (.int (h : Int)), some (.int (L : Int)), some (.lst ((st' ++ kids ds h p d).map tC)), some (tC p), some (lC (MS ds h p)), y6], wt L (st' ++ kids ds h p d), ?_, start _ ?_, st' ++ kids ds h p d, _, _, _, rfl, fun q hq => ?_, Nat.le_refl _, hnx, ?_⟩
          · rw [wt_app]; omega
          · refine xs_no ((ev5 _ rfl).trans (by rw [hm]; rfl)) (xs_then (lt.trans (by rw [decide_eq_true hlt])) ?_ rfl)
            refine xs_ext (xs := st'.map tC) (ys := (kids ds h p d).map tC) rfl ?_ (by rw [List.length_map, List.length_map]; exact lim_le (by omega)) (by rw [List.map_append]; rfl)
            unfold kids
            rw [List.map_map]
            refine lc_evA tI ds (fun c => [some (lC ds), some (.int (h : Int)), some (.int (L : Int)), some (.lst (st'.map tC)), some (tC p), some (lC (MS ds h p)), some (tI c)]) (fun c => hitB h c d) (fun c => tC (p ++ [c])) (t := lC ds) rfl rfl (lim_le (by omega)) fun c hc => ⟨rfl, d_cmp (x := .int (hits c d : Nat)) (y := .int (h : Int)) (d_call2 (x := tI c) (y := tI d) rfl (d_idx (x := lC (MS ds h p)) (y := .int 0) rfl rfl (by rw [hm]; exact atT_ok (j := 0) rfl rfl)) (p_hits rfl (by omega) (by have := (dm c hc).1; omega))) rfl (cge_nat _ _), fun _ => d_bin (x := tC p) (y := .tup [tI c]) rfl (tp1 rfl) ?_⟩
            rw [add_tup (by rw [List.length_map]; show p.length + 1 ≤ 1000000; omega), tC, List.map_append]; rfl
          · rcases List.mem_append.mp hq with z | z
            · exact hE q (List.mem_append_left _ z)
            · exact kid_ok eE hd hlt q z
          · intro i q hq
            rcases Nat.lt_or_ge i st'.length with z | z
            · rw [List.getElem?_append_left z] at hq
              exact hpre i q hq
            · rw [List.getElem?_append_right z] at hq
              have hk1 := (List.getElem?_eq_some_iff.mp hq).1
              obtain ⟨c, _, rfl⟩ := List.mem_map.mp (List.mem_of_getElem? hq)
              have := hlen st'.length p (by rw [List.getElem?_append_right (Nat.le_refl _), Nat.sub_self]; rfl)
              rw [List.length_append, List.length_singleton]
              omega
        · rw [if_neg hlt, List.append_nil] at hnx
          refine .inl ⟨[some (lC ds), some (.int (h : Int)), some (.int (L : Int)), some (.lst (st'.map tC)), some (tC p), some (lC (MS ds h p)), y6], wt L st', by omega, start _ ?_, st', _, _, _, rfl, fun q hq => hE q (List.mem_append_left _ hq), Nat.le_refl _, hnx, hpre⟩
          exact xs_no ((ev5 _ rfl).trans (by rw [hm]; rfl)) (xs_no (lt.trans (by rw [decide_eq_false hlt])) rfl)
theorem s_fewin (hn : 4 ≤ n) (hW : 21 ^ 20 < W) {b s h : Nat} (t : Tri b s h) : ∃ r, callP PR W n 7 [lC (DR b s), .int (h : Int)] = .ret r ∧ ∃ p, r = tC p ∧ Few (DR b s) h p := by
  obtain ⟨n, rfl⟩ : ∃ k, n = k + 1 := ⟨n - 1, by omega⟩
  obtain ⟨d20, d0, dn, dm⟩ := t.c1
  have go : ∃ r, exec ⟨callP PR W n, W⟩ c_few_in.body [some (lC (DR b s)), some (.int (h : Int)), none, none, none, none, none] = .ret (.rt r) ∧ ∃ p, r = tC p ∧ Few (DR b s) h p := by
    refine xo_for (fun i : Nat => .int ((1 + i : Nat) : Int)) (List.range (DR b s).length) (fun p e => (∃ x2 x3 x4 x5 x6, e = [some (lC (DR b s)), some (.int (h : Int)), x2, x3, x4, x5, x6]) ∧ ∀ C, Cov (DR b s) h C → ¬ C.length ≤ p.length) ((d_rng2 (m := 1) (n := (DR b s).length + 1) rfl (d_bin (x := .int ((DR b s).length : Nat)) (d_bi1 (x := lC (DR b s)) rfl (by show M.ret (T.int (((DR b s).map tI).length : Nat)) = _; rw [List.length_map])) rfl rfl) (by omega) (by omega)).trans (by rw [Nat.add_sub_cancel])) rfl ⟨⟨none, none, none, none, none, rfl⟩, fun C hC hl => ?_⟩ ?_ ?_
    · have : C = [] := List.length_eq_zero_iff.mp (Nat.le_zero.mp hl)
      subst this
      exact t.ne hC.all
    · rintro p y q e hp ⟨⟨x2, x3, x4, x5, x6, rfl⟩, hno⟩
      obtain ⟨rfl, hlt⟩ := prefix_range hp
      refine ⟨[some (lC (DR b s)), some (.int (h : Int)), some (.int ((1 + p.length : Nat) : Int)), x3, x4, x5, x6], rfl, ?_⟩
      rcases few_loop (n := n) (W := W) (by omega) hW t (L := 1 + p.length) (by omega) (x3 := x3) (x4 := x4) (x5 := x5) (x6 := x6) with ⟨e', g1, ⟨y3, y4, y5, y6, rfl⟩, g3⟩ | ⟨r, g1, p', rfl, eE, g3⟩
      · refine .inl ⟨_, g1, ⟨_, _, _, _, _, rfl⟩, fun C hC hl => g3 C hC ?_⟩
        rw [List.length_append, List.length_singleton] at hl; omega
      · refine .inr ⟨_, g1, p', rfl, eE.nd, eE.sub, g3, fun C hC => ?_⟩
        have := hno C hC
        have := eE.le
        omega
    · rintro e ⟨_, hno⟩
      exact absurd (Nat.le_of_eq (by rw [List.length_range])) (hno _ t.cov)
  obtain ⟨r, g1, g2⟩ := go
  exact ⟨r, s_run (F := c_few_in) rfl rfl g1, g2⟩
theorem few_perm {ds : List D} {h : Int} {p q : List D} (e : Few ds h p) (pm : q.Perm p) : Few ds h q := by
  refine ⟨pm.nodup_iff.mpr e.nd, fun c hc => e.sub c (pm.mem_iff.mp hc), MS_nil.mpr fun d hd => ?_, fun C hC => by rw [pm.length_eq]; exact e.le C hC⟩
  obtain ⟨c, hc, hh⟩ := MS_nil.mp e.all d hd
  exact ⟨c, pm.mem_iff.mpr hc, hh⟩
theorem s_few (hn : 5 ≤ n) (hW : 21 ^ 20 < W) {b s h : Nat} (t : Tri b s h) : ∃ q, callP PR W n 10 [.int (b : Int), .int (s : Int), .int (h : Int)] = .ret (tC q) ∧ Few (DR b s) h q ∧ SortedK id q := by
  obtain ⟨n, rfl⟩ : ∃ k, n = k + 1 := ⟨n - 1, by omega⟩
  obtain ⟨r, g1, p, rfl, g2⟩ := s_fewin (n := n) (W := W) (by omega) hW t
  obtain ⟨d20, d0, dn, dm⟩ := t.c1
  refine ⟨sortK id p, s_run (F := c_few_cards) rfl rfl ?_, few_perm g2 (sortK_perm id p), sortK_sorted id p⟩
  show exec _ _ [some (.int (b : Int)), some (.int (s : Int)), some (.int (h : Int))] = _
  refine xs_expr (d_call3 rfl rfl rfl (s_need (by omega) t)) (xs_ret (d_bi1 (x := lC (sortK id p)) (d_bi1 (x := tC p) (d_call2 (x := lC (DR b s)) (y := .int (h : Int)) (d_call2 rfl rfl (s_picks (by omega) t)) rfl g1) ?_) rfl))
  have hne : ∀ x ∈ p, x ≠ [] := fun x hx z => by
    have := (dm x (g2.sub x hx)).1
    rw [z] at this
    have := t.h1; have := t.hs
    simp at *; omega
  exact sorted_tIt hne
end
end Law

set_option linter.all false
set_option autoImplicit false
set_option maxRecDepth 100000
namespace Law
open Py Py.K31
theorem filter_tt {α : Type} (l : List α) : (l.filter fun _ => true) = l := List.filter_eq_self.mpr fun _ _ => rfl
theorem all_bools (l : List Bool) : biM .all [.lst (l.map T.bl)] = .ret (.bl (l.all id)) := all_map id l
theorem plain_tI' (d : D) : plain (tI d) = true := plainL_int d
theorem plain_tC (cs : List D) : plain (tC cs) = true := plainL_tI cs
section
variable {W n : Nat}
def inB (b : Nat) (yss : List (List T)) : Bool := yss.all fun ys => ys.all fun x => whole x 0 ((b : Int) - 1)
/-- cards, or not, by what fails first -/
theorem f_1 (hn : 2 ≤ n) {b s : Nat} {v : T} (hv : plain v = true) (h : tupOf v 0 20 = false) : callP PR W n 8 [.int (b : Int), .int (s : Int), v] = .ret (.bl false) := by
  obtain ⟨n, rfl⟩ : ∃ k, n = k + 1 := ⟨n - 1, by omega⟩
  refine s_run (F := c_fits_cards) rfl rfl ?_
  show exec _ _ [some (.int (b : Int)), some (.int (s : Int)), some v, none, none] = _
  exact xs_yes (d_or (x := true) (y := true) (d_not' (x := false) (d_call3 rfl rfl rfl ((s_tupOf (by omega) v 0 20 hv).trans (by rw [h]))) rfl) fun z => nomatch z) (xs_ret rfl)
theorem f_sizes {b s : Nat} (hn : 1 ≤ n) {xs : List T} (hp : plainL xs = true) (hl : xs.length ≤ 20) : den ⟨callP PR W n, W⟩ (.bi .all (.cons (.lc (.n 3) (.var 2) (.con (.bl true)) [3] (.call 1 (.cons (.var 3) (.cons (.var 1) (.cons (.var 1) .nil))))) .nil)) [some (.int (b : Int)), some (.int (s : Int)), some (.tup xs), none, none] = .ret (.bl (xs.all fun x => tupOf x s s)) :=
  d_bi1 (lc_map (xs := xs) (fun x => [some (.int (b : Int)), some (.int (s : Int)), some (.tup xs), some x, none]) (fun x => .bl (tupOf x s s)) rfl rfl (lim_le (by omega)) fun x hx => ⟨rfl, d_call3 rfl rfl rfl (s_tupOf hn x s s (plainL_mem hp hx))⟩) (all_map _ _)
theorem tupOf_20 {xs : List T} (hl : xs.length ≤ 20) : tupOf (.tup xs) 0 20 = true := by
  show (decide ((0 : Int) ≤ (xs.length : Nat)) && decide ((xs.length : Int) ≤ 20)) = true
  rw [decide_eq_true (by omega), decide_eq_true (by omega)]; rfl
theorem f_2 (hn : 2 ≤ n) {b s : Nat} {xs : List T} (hv : plainL xs = true) (hl : xs.length ≤ 20) (h : (xs.all fun x => tupOf x s s) = false) : callP PR W n 8 [.int (b : Int), .int (s : Int), .tup xs] = .ret (.bl false) := by
  obtain ⟨n, rfl⟩ : ∃ k, n = k + 1 := ⟨n - 1, by omega⟩
  refine s_run (F := c_fits_cards) rfl rfl ?_
  show exec _ _ [some (.int (b : Int)), some (.int (s : Int)), some (.tup xs), none, none] = _
  exact xs_yes (d_or (x := false) (y := true) (d_not' (x := true) (d_call3 rfl rfl rfl ((s_tupOf (by omega) (.tup xs) 0 20 hv).trans (by rw [tupOf_20 hl]))) rfl) fun _ => d_not' (x := false) ((f_sizes (by omega) hv hl).trans (by rw [h])) rfl) (xs_ret rfl)
theorem f_balls (hn : 1 ≤ n) {b s : Nat} (hs : s ≤ 6) {yss : List (List T)} (hp : ∀ ys ∈ yss, plainL ys = true) (hl : yss.length ≤ 20) (hk : ∀ ys ∈ yss, ys.length = s) :
    den ⟨callP PR W n, W⟩ (.bi .all (.cons (.lc2 (.n 3) (.var 2) (.con (.bl true)) (.n 4) [4] (.var 3) (.con (.bl true)) [3, 4] (.call 0 (.cons (.var 4) (.cons (.con (.int 0)) (.cons (.bin .sub (.var 0) (.con (.int 1))) .nil))))) .nil)) [some (.int (b : Int)), some (.int (s : Int)), some (.tup (yss.map T.tup)), none, none] = .ret (.bl (inB b yss)) := by
  have e1 : (((yss.filter fun _ => true).flatMap fun ys => ((ys.filter fun _ => true).map fun x => T.bl (whole x 0 ((b : Int) - 1)))) : List T) = (yss.flatMap fun ys => ys.map fun x => whole x 0 ((b : Int) - 1)).map T.bl := by
    rw [List.map_flatMap]
    simp only [filter_tt, List.map_map]
    rfl
  have len : ∀ yss : List (List T), (∀ ys ∈ yss, ys.length = s) → (yss.flatMap fun ys => ys.map fun x => whole x 0 ((b : Int) - 1)).length = yss.length * s := by
    intro yss h
    induction yss with
    | nil => simp
    | cons y yss ih =>
      rw [List.flatMap_cons, List.length_append, List.length_map, h y (.head _), ih fun z hz => h z (.tail _ hz), List.length_cons, Nat.succ_mul]; omega
  have hlen := len yss hk
  have h2 : yss.length * s ≤ 20 * 6 := Nat.mul_le_mul hl hs
  refine d_bi1 (x := .lst ((yss.flatMap fun ys => ys.map fun x => whole x 0 ((b : Int) - 1)).map T.bl)) ?_ ((all_bools _).trans ?_)
  · rw [← e1]
    refine lc2_evA T.tup yss (fun ys => [some (.int (b : Int)), some (.int (s : Int)), some (.tup (yss.map T.tup)), some (.tup ys), none]) (fun _ => true) (fun _ x => x) (fun ys => ys) (fun ys x => [some (.int (b : Int)), some (.int (s : Int)), some (.tup (yss.map T.tup)), some (.tup ys), some x]) (fun _ _ => true) (fun _ x => .bl (whole x 0 ((b : Int) - 1))) (t := .tup (yss.map T.tup)) rfl rfl (by rw [e1, List.length_map, hlen]; exact lim_le (by omega)) (fun ys _ => ⟨rfl, rfl⟩) (fun ys _ _ => ⟨.tup ys, rfl, by rw [List.map_id']; rfl⟩) fun ys hys _ x hx => ⟨rfl, rfl, fun _ => d_call3 (x := x) (y := .int 0) (z := .int ((b : Int) - 1)) rfl rfl (d_bin rfl rfl rfl) (s_whole hn x 0 ((b : Int) - 1) (plainL_mem (hp ys hys) hx))⟩
  · congr 2
    unfold inB
    rw [List.all_flatMap]
    simp only [List.all_map]
    rfl
theorem f_start (hn : 2 ≤ n) {b s : Nat} (hs : s ≤ 6) {yss : List (List T)} (hp : ∀ ys ∈ yss, plainL ys = true) (hl : yss.length ≤ 20) (hk : ∀ ys ∈ yss, ys.length = s) {m : M R}
    (k : ∀ C : Cx, C = ⟨callP PR W (n - 1), W⟩ → exec C (.seq (.ite (.not (.bi .all (.cons (.lc2 (.n 3) (.var 2) (.con (.bl true)) (.n 4) [4] (.var 3) (.con (.bl true)) [3, 4] (.call 0 (.cons (.var 4) (.cons (.con (.int 0)) (.cons (.bin .sub (.var 0) (.con (.int 1))) .nil))))) .nil)))
  (.seq (.ret (.con (.bl false)))
  .skip)
  .skip)
  (.seq (.ret (.and (.bi .all (.cons (.lc (.n 3) (.var 2) (.con (.bl true)) [3] (.call 2 (.cons (.var 3) .nil))) .nil)) (.call 2 (.cons (.var 2) .nil))))
  .skip)) [some (.int (b : Int)), some (.int (s : Int)), some (.tup (yss.map T.tup)), none, none] = m) : exec ⟨callP PR W (n - 1), W⟩ c_fits_cards.body [some (.int (b : Int)), some (.int (s : Int)), some (.tup (yss.map T.tup)), none, none] = m := by
  have hv : plainL (yss.map T.tup) = true := plainL_of fun x hx => by
    obtain ⟨ys, hys, rfl⟩ := List.mem_map.mp hx
    exact hp ys hys
  have hall : ((yss.map T.tup).all fun x => tupOf x s s) = true := by
    rw [List.all_map, List.all_eq_true]
    intro ys hys
    show (decide ((s : Int) ≤ (ys.length : Nat)) && decide ((ys.length : Int) ≤ s)) = true
    rw [hk ys hys, decide_eq_true (by omega)]; rfl
  exact xs_no (d_or (x := false) (y := false) (d_not' (x := true) (d_call3 rfl rfl rfl ((s_tupOf (by omega) (.tup (yss.map T.tup)) 0 20 hv).trans (by rw [tupOf_20 (by rw [List.length_map]; exact hl)]))) rfl) fun _ => d_not' (x := true) ((f_sizes (by omega) hv (by rw [List.length_map]; exact hl)).trans (by rw [hall])) rfl) (k _ rfl)
theorem f_3 (hn : 2 ≤ n) {b s : Nat} (hs : s ≤ 6) {yss : List (List T)} (hp : ∀ ys ∈ yss, plainL ys = true) (hl : yss.length ≤ 20) (hk : ∀ ys ∈ yss, ys.length = s) (h : inB b yss = false) : callP PR W n 8 [.int (b : Int), .int (s : Int), .tup (yss.map T.tup)] = .ret (.bl false) := by
  obtain ⟨n, rfl⟩ : ∃ k, n = k + 1 := ⟨n - 1, by omega⟩
  refine s_run (F := c_fits_cards) rfl rfl ?_
  refine f_start (n := n + 1) hn hs hp hl hk fun C hC => ?_
  subst hC
  exact xs_yes (d_not' (x := false) ((f_balls (by omega) hs hp hl hk).trans (by rw [h])) rfl) (xs_ret rfl)
def okC (cs : List D) : Bool := (cs.all fun c => risB (fun a b : Int => decide (a < b)) c) && risB ltI cs
theorem f_4 (hn : 2 ≤ n) {b s : Nat} (hs : s ≤ 6) {cs : List D} (hl : cs.length ≤ 20) (hk : ∀ c ∈ cs, c.length = s) (hb : ∀ c ∈ cs, ∀ x ∈ c, 0 ≤ x ∧ x < (b : Int)) : callP PR W n 8 [.int (b : Int), .int (s : Int), tC cs] = .ret (.bl (okC cs)) := by
  obtain ⟨n, rfl⟩ : ∃ k, n = k + 1 := ⟨n - 1, by omega⟩
  have ec : tC cs = .tup ((cs.map fun c : D => c.map T.int).map T.tup) := by rw [tC, List.map_map]; rfl
  rw [ec]
  have hp : ∀ ys ∈ cs.map (fun c : D => c.map T.int), plainL ys = true := fun ys hys => by
    obtain ⟨c, _, rfl⟩ := List.mem_map.mp hys
    exact plainL_int c
  have hk2 : ∀ ys ∈ cs.map (fun c : D => c.map T.int), ys.length = s := fun ys hys => by
    obtain ⟨c, hc, rfl⟩ := List.mem_map.mp hys
    rw [List.length_map]; exact hk c hc
  have hin : inB b (cs.map fun c : D => c.map T.int) = true := by
    unfold inB
    rw [List.all_map, List.all_eq_true]
    intro c hc
    show ((c.map T.int).all fun x => whole x 0 ((b : Int) - 1)) = true
    rw [List.all_map, List.all_eq_true]
    intro x hx
    have := hb c hc x hx
    exact whole_i this.1 (by omega)
  refine s_run (F := c_fits_cards) rfl rfl ?_
  refine f_start (n := n + 1) hn hs hp (by rw [List.length_map]; exact hl) hk2 fun C hC => ?_
  subst hC
  refine xs_no (d_not' (x := true) ((f_balls (by omega) hs hp (by rw [List.length_map]; exact hl) hk2).trans (by rw [hin])) rfl) ?_
  rw [← ec]
  refine xs_ret (d_and (x := cs.all fun c => risB (fun a b : Int => decide (a < b)) c) (y := risB ltI cs) (d_bi1 (lc_mapA tI cs (fun c => [some (.int (b : Int)), some (.int (s : Int)), some (tC cs), some (tI c), none]) (fun c => .bl (risB (fun a b : Int => decide (a < b)) c)) (t := tC cs) rfl rfl (lim_le (by omega)) fun c hc => ⟨rfl, d_call1 (x := tI c) rfl ?_⟩) (all_map _ _)) fun _ => d_call1 (x := tC cs) rfl ?_)
  · exact p_rising (f := 2) rfl (by omega) T.int (fun a b : Int => decide (a < b)) c (fun a _ b _ => clt_int a b) (lim_le (by have := hk c hc; omega))
  · exact p_rising (f := 2) rfl (by omega) tI ltI cs (fun a _ b _ => clt_tI a b) (lim_le (by omega))
structure Cards (b s : Nat) (cs : List D) : Prop where
  sub : ∀ c ∈ cs, c ∈ DR b s
  nd : cs.Nodup
  so : SortedK id cs
  le : cs.length ≤ 20
theorem cards_fit (hn : 2 ≤ n) {b s h : Nat} (t : Tri b s h) {cs : List D} (c : Cards b s cs) : callP PR W n 8 [.int (b : Int), .int (s : Int), tC cs] = .ret (.bl true) := by
  obtain ⟨d20, d0, dn, dm⟩ := t.c1
  rw [f_4 hn (by have := t.b6; have := t.sb; omega) c.le (fun x hx => (dm x (c.sub x hx)).1) fun x hx => (dm x (c.sub x hx)).2.2]
  have : okC cs = true := by
    unfold okC
    rw [sorted_risI c.so c.nd, Bool.and_true, List.all_eq_true]
    exact fun x hx => (dm x (c.sub x hx)).2.1
  rw [this]
theorem s_sure0 (hn : 3 ≤ n) {b s h : Nat} (t : Tri b s h) {v : T} (hf : callP PR W (n - 1) 8 [.int (b : Int), .int (s : Int), v] = .ret (.bl false)) : callP PR W n 11 [.int (b : Int), .int (s : Int), .int (h : Int), v] = .ret (.bl false) := by
  obtain ⟨n, rfl⟩ : ∃ k, n = k + 1 := ⟨n - 1, by omega⟩
  refine s_run (F := c_is_sure_set) rfl rfl ?_
  show exec _ _ [some (.int (b : Int)), some (.int (s : Int)), some (.int (h : Int)), some v] = _
  exact xs_expr (d_call3 rfl rfl rfl (s_need (by omega) t)) (xs_ret (d_and (x := false) (y := true) (d_call3 rfl rfl rfl hf) fun z => nomatch z))
theorem miss_ev (hn : 2 ≤ n) {b s h : Nat} (t : Tri b s h) {cs : List D} (hs : ∀ c ∈ cs, c ∈ DR b s) (hl : cs.length ≤ 20) {v : T} {x : E} {env : Env} (e0 : getv env 0 = .ret (.int (b : Int))) (e1 : getv env 1 = .ret (.int (s : Int))) (e2 : getv env 2 = .ret (.int (h : Int))) (e3 : getv env 3 = .ret (tC cs)) :
    den ⟨callP PR W n, W⟩ (.call 6 (.cons (.call 3 (.cons (.var 0) (.cons (.var 1) .nil))) (.cons (.var 2) (.cons (.var 3) .nil)))) env = .ret (lC (MS (DR b s) h cs)) := by
  obtain ⟨d20, d0, dn, dm⟩ := t.c1
  exact d_call3 (x := lC (DR b s)) (y := .int (h : Int)) (z := tC cs) (d_call2 e0 e1 (s_picks (by omega) t)) e2 e3 (s_missed hn (by omega) (by omega) fun c hc => by have := (dm c (hs c hc)).1; have := t.b6; have := t.sb; omega)
theorem s_sure (hn : 3 ≤ n) {b s h : Nat} (t : Tri b s h) {cs : List D} (c : Cards b s cs) : callP PR W n 11 [.int (b : Int), .int (s : Int), .int (h : Int), tC cs] = .ret (.bl (MS (DR b s) h cs).isEmpty) := by
  obtain ⟨n, rfl⟩ : ∃ k, n = k + 1 := ⟨n - 1, by omega⟩
  refine s_run (F := c_is_sure_set) rfl rfl ?_
  show exec _ _ [some (.int (b : Int)), some (.int (s : Int)), some (.int (h : Int)), some (tC cs)] = _
  refine xs_expr (d_call3 rfl rfl rfl (s_need (by omega) t)) (xs_ret ((d_and (x := true) (y := ((MS (DR b s) h cs).map tI).isEmpty) (d_call3 rfl rfl rfl (cards_fit (by omega) t c)) fun _ => d_cmp (x := lC (MS (DR b s) h cs)) (y := .lst []) (miss_ev (by omega) t c.sub c.le (v := .non) (x := .nil) rfl rfl rfl rfl) nill (ceql (tC_plain _))).trans ?_))
  cases MS (DR b s) h cs <;> rfl
theorem s_missedC (hn : 3 ≤ n) {b s h : Nat} (t : Tri b s h) {cs : List D} (c : Cards b s cs) : callP PR W n 9 [.int (b : Int), .int (s : Int), .int (h : Int), tC cs] = .ret (tC (MS (DR b s) h cs)) := by
  obtain ⟨n, rfl⟩ : ∃ k, n = k + 1 := ⟨n - 1, by omega⟩
  refine s_run (F := c_missed) rfl rfl ?_
  show exec _ _ [some (.int (b : Int)), some (.int (s : Int)), some (.int (h : Int)), some (tC cs)] = _
  exact xs_expr (d_call3 rfl rfl rfl (s_need (by omega) t)) (xs_no (d_not' (x := true) (d_call3 rfl rfl rfl (cards_fit (by omega) t c)) rfl) (xs_ret (d_bi1 (x := lC (MS (DR b s) h cs)) (miss_ev (by omega) t c.sub c.le (v := .non) (x := .nil) rfl rfl rfl rfl) rfl)))
def subsG {α : Type} (l : List α) : List (List α) := l.foldl (fun f x => f ++ f.map (· ++ [x])) [[]]
theorem subsG_snoc {α : Type} (l : List α) (x : α) : subsG (l ++ [x]) = subsG l ++ (subsG l).map (· ++ [x]) := by
  unfold subsG; rw [List.foldl_append]; rfl
theorem subsG_len {α : Type} : ∀ (n : Nat) (l : List α), l.length = n → (subsG l).length = 2 ^ n
  | 0, l, h => by rw [List.length_eq_zero_iff.mp h]; rfl
  | n + 1, l, h => by
    have hne : l ≠ [] := fun z => by rw [z] at h; cases h
    rw [← List.dropLast_concat_getLast hne, subsG_snoc, List.length_append, List.length_map, subsG_len n l.dropLast (by rw [List.length_dropLast, h]; rfl), Nat.pow_succ]; omega
theorem subsG_sub {α : Type} : ∀ (n : Nat) (l : List α), l.length = n → ∀ s ∈ subsG l, (∀ x ∈ s, x ∈ l) ∧ s.length ≤ l.length
  | 0, l, h, s, hs => by
    rw [List.length_eq_zero_iff.mp h] at hs
    have : s = [] := List.mem_singleton.mp hs
    subst this
    exact ⟨fun x hx => (by cases hx), Nat.zero_le _⟩
  | n + 1, l, h, s, hs => by
    have hne : l ≠ [] := fun z => by rw [z] at h; cases h
    have e := List.dropLast_concat_getLast hne
    have hl : l.dropLast.length = n := by rw [List.length_dropLast, h]; rfl
    rw [← e, subsG_snoc] at hs
    rcases List.mem_append.mp hs with z | z
    · obtain ⟨h1, h2⟩ := subsG_sub n l.dropLast hl s z
      exact ⟨fun x hx => (List.dropLast_sublist l).subset (h1 x hx), by omega⟩
    · obtain ⟨s', z2, rfl⟩ := List.mem_map.mp z
      obtain ⟨h1, h2⟩ := subsG_sub n l.dropLast hl s' z2
      refine ⟨fun x hx => ?_, by rw [List.length_append, List.length_singleton]; omega⟩
      rcases List.mem_append.mp hx with w | w
      · exact (List.dropLast_sublist l).subset (h1 x w)
      · rw [List.mem_singleton.mp w]; exact List.getLast_mem hne
theorem s_subs {α : Type} (g : α → T) (hn : 1 ≤ n) {l : List α} (h : l.length ≤ 10) : callP PR W n 14 [.lst (l.map g)] = .ret (.lst ((subsG l).map fun s => .tup (s.map g))) := by
  obtain ⟨n, rfl⟩ : ∃ k, n = k + 1 := ⟨n - 1, by omega⟩
  refine s_run (F := c__law_subsets) rfl rfl ?_
  show exec _ _ [some (.lst (l.map g)), none, none, none] = _
  refine xs_asg (t := .lst [.tup []]) (ls1 nilt) ?_
  refine xs_for g l (fun p e => ∃ x2 x3, e = [some (.lst (l.map g)), some (.lst ((subsG p).map fun s => .tup (s.map g))), x2, x3]) (t := .lst (l.map g)) rfl rfl ⟨none, none, rfl⟩ ?_ ?_
  · rintro p y q e hp ⟨x2, x3, rfl⟩
    have hpl : p.length ≤ 10 := by
      have := congrArg List.length hp
      rw [List.length_append] at this; omega
    have hsl : (subsG p).length ≤ 1024 := by
      rw [subsG_len p.length p rfl]; exact Nat.le_trans (Nat.pow_le_pow_right (by decide) hpl) (by decide)
    refine ⟨[some (.lst (l.map g)), some (.lst ((subsG p).map fun s => .tup (s.map g))), some (g y), x3], _, rfl, xs_asg (t := .lst ((subsG (p ++ [y])).map fun s => .tup (s.map g))) ?_ rfl, _, _, rfl⟩
    refine d_bin (x := .lst ((subsG p).map fun s => .tup (s.map g))) (y := .lst (((subsG p).map (· ++ [y])).map fun s => .tup (s.map g))) rfl ?_ ?_
    · rw [List.map_map]
      refine lc_mapA (fun s : List α => .tup (s.map g)) (subsG p) (fun s => [some (.lst (l.map g)), some (.lst ((subsG p).map fun s => .tup (s.map g))), some (g y), some (.tup (s.map g))]) (fun s => .tup ((s ++ [y]).map g)) (t := .lst ((subsG p).map fun s => .tup (s.map g))) rfl rfl (lim_le (by omega)) ?_
      intro s hs
      have hsl := (subsG_sub p.length p rfl s hs).2
      refine ⟨rfl, d_bin (x := .tup (s.map g)) (y := .tup [g y]) rfl (tp1 rfl) ?_⟩
      rw [add_tup (by rw [List.length_map]; show s.length + 1 ≤ 1000000; omega), List.map_append]; rfl
    · rw [add_lst (by rw [List.length_map, List.length_map, List.length_map]; omega), subsG_snoc, List.map_append]
  · rintro e ⟨x2, x3, rfl⟩
    exact xs_ret rfl
theorem s_draws (hn : 2 ≤ n) {b s h : Nat} (t : Tri b s h) : callP PR W n 15 [.int (b : Int), .int (s : Int)] = .ret (lC (DR b s)) := by
  obtain ⟨n, rfl⟩ : ∃ k, n = k + 1 := ⟨n - 1, by omega⟩
  have h6 := t.b6; have := t.h1; have := t.hs
  refine s_run (F := c__law_draws) rfl rfl ?_
  show exec _ _ [some (.int (b : Int)), some (.int (s : Int)), none] = _
  have eb : (ballsZ b).map T.int = (List.range b).map fun i : Nat => T.int (i : Int) := by unfold ballsZ; rw [List.map_map]; rfl
  have hsub : (subsZ (ballsZ b)).length ≤ 64 := by
    rw [subsZ_len]; exact Nat.pow_le_pow_right (by decide) h6
  refine xs_ret (d_bi1 (x := lC (FD b s)) ?_ (sorted_tI fun x hx => ?_))
  · refine lc_evA tI (subsZ (ballsZ b)) (fun d => [some (.int (b : Int)), some (.int (s : Int)), some (tI d)]) (fun d => decide (d.length = s)) tI (t := lC (subsZ (ballsZ b))) ?_ rfl (lim_le (by omega)) fun d _ => ⟨rfl, d_cmp (x := .int (d.length : Nat)) (y := .int (s : Int)) (d_bi1 (x := tI d) rfl (by show M.ret (T.int ((d.map T.int).length : Nat)) = _; rw [List.length_map])) rfl ((ceq_int _ _).trans (by congr 2; exact decide_eq_decide.mpr (by omega))), fun _ => rfl⟩
    exact d_call1 (x := .lst ((ballsZ b).map T.int)) (d_rngs (b := false) (xs := (ballsZ b).map T.int) (d_rng1 (n := b) rfl (by omega)) (by rw [eb]; rfl)) (s_subs T.int (by omega) (by unfold ballsZ; rw [List.length_map, List.length_range]; omega))
  · have := of_decide_eq_true (List.mem_filter.mp hx).2
    exact fun z => by rw [z] at this; simp at this; omega
theorem s_lmissed (hn : 3 ≤ n) {b s h : Nat} (t : Tri b s h) {cs : List D} (hl : cs.length ≤ 1000) (hc : ∀ c ∈ cs, c.length ≤ 1000) : callP PR W n 17 [.int (b : Int), .int (s : Int), .int (h : Int), tC cs] = .ret (lC (MS (DR b s) h cs)) := by
  obtain ⟨n, rfl⟩ : ∃ k, n = k + 1 := ⟨n - 1, by omega⟩
  obtain ⟨d20, d0, dn, dm⟩ := t.c1
  refine s_run (F := c__law_missed) rfl rfl ?_
  show exec _ _ [some (.int (b : Int)), some (.int (s : Int)), some (.int (h : Int)), some (tC cs), none, none] = _
  refine xs_ret (lc_evA tI (DR b s) (fun d => [some (.int (b : Int)), some (.int (s : Int)), some (.int (h : Int)), some (tC cs), some (tI d), none]) (fun d => !(cs.any fun c => hitB h c d)) tI (t := lC (DR b s)) (d_call2 rfl rfl (s_draws (by omega) t)) rfl (lim_le (by omega)) fun d _ => ⟨rfl, ?_, fun _ => rfl⟩)
  have key := lc_evA (C := ⟨callP PR W n, W⟩) (env := [some (.int (b : Int)), some (.int (s : Int)), some (.int (h : Int)), some (tC cs), some (tI d), none]) (tgt := .n 5) (own := [5]) (it := .var 3) (c := .cmp .ge (.call 16 (.cons (.var 5) (.cons (.var 4) .nil))) (.var 2)) (el := .var 5) tI cs (fun c => [some (.int (b : Int)), some (.int (s : Int)), some (.int (h : Int)), some (tC cs), some (tI d), some (tI c)]) (fun c => hitB h c d) tI (t := tC cs) rfl rfl (lim_le (by omega)) fun c hc' => ⟨rfl, d_cmp (x := .int (hits c d : Nat)) (y := .int (h : Int)) (d_call2 (x := tI c) (y := tI d) rfl rfl (p_hits rfl (by omega) (hc c hc'))) rfl (cge_nat _ _), fun _ => rfl⟩
  refine d_cmp key nill ((ceql (tC_plain _)).trans ?_)
  congr 2
  rw [Bool.eq_iff_iff]
  simp only [List.isEmpty_iff, List.map_eq_nil_iff, List.filter_eq_nil_iff, Bool.not_eq_true', List.any_eq_false]
theorem s_somec (hn : 2 ≤ n) {b s h : Nat} (t : Tri b s h) {Q : T → Prop} (q : ∀ cs, Cards b s cs → cs.length ≤ 6 → Q (tC cs)) : W0 (callP PR W n 18 [.cup, lC (DR b s), .int 6]) Q := by
  obtain ⟨n, rfl⟩ : ∃ k, n = k + 1 := ⟨n - 1, by omega⟩
  obtain ⟨d20, d0, dn, dm⟩ := t.c1
  refine w0_run (F := c__law_some_cards) rfl rfl ?_
  show W0 (exec _ _ [some .cup, some (lC (DR b s)), some (.int 6), none, none]) _
  refine ws_asg (t := .dct (mt [])) rfl ?_
  refine ws_forW (w0_rng1E (w0_rollE (k := 7) rfl rfl (by decide) (by decide) fun k k0 k1 => ⟨k.toNat, by rw [Int.toNat_of_nonneg k0], by omega, _, rfl, fun xs e => ∃ (ks : List D) (x4 : Option T), e = [some .cup, some (lC (DR b s)), some (.int 6), some (.dct (mt ks)), x4] ∧ ks.Nodup ∧ (∀ c ∈ ks, c ∈ DR b s) ∧ ks.length + xs.length ≤ 6, ⟨[], none, rfl, List.Pairwise.nil, fun _ z => (by cases z), by rw [List.length_map, List.length_range]; simp; omega⟩, ?_, ?_⟩))
  · rintro y r e ⟨ks, x4, rfl, nd, sb, hl⟩
    rw [List.length_cons] at hl
    refine w0_val ?_
    show W0 (exec _ _ [some .cup, some (lC (DR b s)), some (.int 6), some (.dct (mt ks)), some y]) _
    refine ws_setiK (k := .call 12 (.cons (.var 0) (.cons (.var 1) .nil))) (e := .con (.bl true)) (v := .bl true) (c := .dct (mt ks)) rfl rfl ?_
    refine w0_eq (d_call2 (x := .cup) (y := lC (DR b s)) rfl rfl rfl) (s_some (by omega) (.inl rfl) (fun z => by rw [List.map_eq_nil_iff.mp z] at d0; simp at d0) (by rw [List.length_map]; omega) fun x hx => ?_)
    obtain ⟨d, hd, rfl⟩ := List.mem_map.mp hx
    refine ⟨_, set_mt (lim_le' (by omega)), ?_⟩
    refine ws_skip ⟨putL ks d, some y, rfl, putL_nodup nd, fun c hc => ?_, by have := putL_len ks d; omega⟩
    rcases putL_mem hc with z | z
    · exact sb c z
    · rw [z]; exact hd
  · rintro e ⟨ks, x4, rfl, nd, sb, hl⟩
    have pm := sortK_perm id ks
    have hl : ks.length ≤ 6 := by simpa using hl
    refine ws_ret (t := tC (sortK id ks)) (d_bi1 (x := lC (sortK id ks)) (d_bi1 (x := .dct (mt ks)) rfl (sorted_mt fun x hx z => ?_)) rfl) (q _ ⟨fun c hc => sb c (pm.mem_iff.mp hc), pm.nodup_iff.mpr nd, sortK_sorted id ks, by rw [pm.length_eq]; omega⟩ (by rw [pm.length_eq]; exact hl))
    have := (dm x (sb x hx)).1
    rw [z] at this
    have := t.h1; have := t.hs
    simp at *; omega
end
end Law

set_option linter.all false
set_option autoImplicit false
set_option maxRecDepth 100000
namespace Law
open Py Py.K31
section
variable {C : Cx} {env : Env}
theorem w0_notE {a : Py.E} {Q : T → Prop} (h : W0 (den C a env) fun t => ∃ x, t = .bl x ∧ Q (.bl !x)) : W0 (den C (.not a) env) Q := by
  rw [den_not]
  exact w0_bind.mpr (h.mono fun t ⟨x, e, q⟩ => by subst e; exact w0_val q)
theorem ws_asgTW {x : Tgt} {e : Py.E} {b : S} {Q : R → Prop} (h : W0 (den C e env) fun t => ∃ env', bindT x t env = .ret env' ∧ W0 (exec C b env') Q) : W0 (exec C (.seq (.asgT x e) b) env) Q := by
  rw [exec_seq, exec_asgT]
  refine w0_bind.mpr (w0_bind.mpr (h.mono fun t ⟨e', h1, h2⟩ => ?_))
  rw [h1, bind_ret]
  exact w0_val h2
theorem ws_asg1 {i : Nat} {c m : Py.E} {b : S} {k : Int} {Q : R → Prop} (hc : den C c env = .ret .cup) (hm : den C m env = .ret (.int k)) (h0 : 0 < k) (h1 : k < 1073741824) (h : ∀ a : Nat, 1 ≤ a → (a : Int) ≤ k → W0 (exec C b (setv env i (.int (a : Int)))) Q) : W0 (exec C (.seq (.asg i (.bin .add (.con (.int 1)) (.roll c m))) b) env) Q := by
  refine ws_asgW (w0_add1E (w0_rollE hc hm h0 h1 fun a a0 a1 => ⟨a, rfl, ?_⟩))
  have := h (1 + a).toNat (by omega) (by omega)
  rw [Int.toNat_of_nonneg (by omega)] at this
  exact this
end
theorem eqL_tC : ∀ a b : List D, eqL (a.map tI) (b.map tI) = decide (a = b)
  | [], [] => rfl
  | [], _ :: _ => rfl
  | _ :: _, [] => rfl
  | x :: a, y :: b => by
    show (eqT (tI x) (tI y) && eqL (a.map tI) (b.map tI)) = _
    rw [eqT_tI, eqL_tC a b, ← Bool.decide_and]
    exact decide_eq_decide.mpr (by rw [List.cons.injEq])
theorem eqM_tC (a b : List D) : eqM (tC a) (tC b) = .ret (decide (a = b)) := by
  unfold eqM eqOk
  have h3 : decide (min (dep (tC a)) (dep (tC b)) ≤ 60) = true := decide_eq_true (by
    have h1 := depL_tI a
    show min (depL (a.map tI) + 1) _ ≤ 60
    omega)
  rw [plain_tC, plain_tC, h3]
  show M.ret (eqL (a.map tI) (b.map tI)) = _
  rw [eqL_tC]
theorem ceq_tC (a b : List D) : cmpM .eq (tC a) (tC b) = .ret (.bl (decide (a = b))) := by
  show (eqM (tC a) (tC b)).bind _ = _
  rw [eqM_tC]; rfl
theorem cne_tC (a b : List D) : cmpM .ne (tC a) (tC b) = .ret (.bl (!decide (a = b))) := by
  show (eqM (tC a) (tC b)).bind _ = _
  rw [eqM_tC]; rfl
theorem goodL_int : ∀ l : List Int, goodL (l.map T.int) = true
  | [] => rfl
  | x :: l => by
    show (true && goodL (l.map T.int)) = true
    rw [goodL_int l]; rfl
theorem good_tC {cs : List D} (hl : cs.length ≤ 1000) (hc : ∀ c ∈ cs, c.length ≤ 1000) : good (tC cs) = true := by
  have : ∀ cs : List D, (∀ c ∈ cs, c.length ≤ 1000) → goodL (cs.map tI) = true := by
    intro cs h
    induction cs with
    | nil => rfl
    | cons c cs ih =>
      show ((decide ((c.map T.int).length ≤ 16777216) && goodL (c.map T.int)) && goodL (cs.map tI)) = true
      rw [ih fun x hx => h x (.tail _ hx), goodL_int, decide_eq_true (by rw [List.length_map]; have := h c (.head _); omega)]; rfl
  show (decide ((cs.map tI).length ≤ 16777216) && goodL (cs.map tI)) = true
  rw [this cs hc, decide_eq_true (by rw [List.length_map]; omega)]; rfl
theorem dep_tC (cs : List D) : dep (tC cs) ≤ 2 := by
  have := depL_tI cs
  show depL (cs.map tI) + 1 ≤ 2
  omega
theorem sorted_filter {p : D → Bool} : ∀ {l : List D}, SortedK id l → SortedK id (l.filter p)
  | [], _ => trivial
  | x :: l, h => by
    rw [List.filter_cons]
    split
    · exact ⟨fun y hy => h.1 y (List.mem_filter.mp hy).1, sorted_filter h.2⟩
    · exact sorted_filter h.2
theorem risB_pw {α : Type} {lt : α → α → Bool} (tr : ∀ a b c, lt a b = true → lt b c = true → lt a c = true) : ∀ {l : List α}, risB lt l = true → l.Pairwise fun a b => lt a b = true
  | [], _ => List.Pairwise.nil
  | [x], _ => List.pairwise_singleton _ _
  | x :: y :: l, h => by
    have h : (lt x y && risB lt (y :: l)) = true := h
    rw [Bool.and_eq_true] at h
    have ih := risB_pw tr h.2
    refine List.pairwise_cons.mpr ⟨fun z hz => ?_, ih⟩
    rcases List.mem_cons.mp hz with rfl | hz
    · exact h.1
    · exact tr x y z h.1 ((List.pairwise_cons.mp ih).1 z hz)
theorem names_at {b : Nat} (h1 : 1 ≤ b) (h6 : b ≤ 6) {x : Int} (x0 : 0 ≤ x) (x1 : x < b) : idxM (.lst (((ballsZ b).drop 1 ++ (ballsZ b).take 1).map T.int)) (.int x) = .ret (.int (rotN b x)) := by
  obtain ⟨k, rfl⟩ : ∃ k : Nat, x = (k : Int) := ⟨x.toNat, by omega⟩
  have key : ∀ b : Fin 7, ∀ k : Fin 7, k.val < b.val → ((ballsZ b.val).drop 1 ++ (ballsZ b.val).take 1)[k.val]? = some (rotN b.val (k.val : Int)) := by decide
  have := key ⟨b, by omega⟩ ⟨k, by omega⟩ (by show k < b; omega)
  exact atT_ok rfl (by rw [List.getElem?_map, this]; rfl)
section
variable {W n : Nat}
theorem rot_ev (hn : 1 ≤ n) {b s h : Nat} (t : Tri b s h) {d : D} (hd : ∀ x ∈ d, 0 ≤ x ∧ x < (b : Int)) (hl : d.length ≤ 6) {env : Env} {i : Nat} (hi : i ≠ 12) (hi2 : i < 16) (hlen : env.length = 16) (e10 : getv env 10 = .ret (.lst (((ballsZ b).drop 1 ++ (ballsZ b).take 1).map T.int))) (ei : getv env i = .ret (tI d)) :
    den ⟨callP PR W n, W⟩ (.bi .tuple (.cons (.bi .sorted (.cons (.lc (.n 12) (.var i) (.con (.bl true)) [12] (.idx (.var 10) (.var 12))) .nil)) .nil)) env = .ret (tI (rot b d)) := by
  refine d_bi1 (x := .lst ((rot b d).map T.int)) (d_bi1 (x := .lst ((d.map (rotN b)).map T.int)) ?_ (sorted_int _)) rfl
  rw [List.map_map]
  refine lc_mapA T.int d (fun x => setv (wipe1 env 12) 12 (.int x)) (fun x => .int (rotN b x)) (t := tI d) ei rfl (lim_le (by omega)) fun x hx => ⟨rfl, ?_⟩
  refine d_idx (x := .lst (((ballsZ b).drop 1 ++ (ballsZ b).take 1).map T.int)) (y := .int x) ?_ (gs_eq (by rw [wipe1_len, hlen]; decide)) (names_at (by have := t.h1; have := t.hs; have := t.sb; omega) t.b6 (hd x hx).1 (hd x hx).2)
  rw [den_var, gs_ne (by decide), gw_ne (by decide)]; exact e10
/-- what is left of the rotated cards is what is left, rotated -/
theorem rot_miss {b s h : Nat} (t : Tri b s h) {cs : List D} (c : Cards b s cs) : Cards b s (sortK id (cs.map (rot b))) ∧ MS (DR b s) h (sortK id (cs.map (rot b))) = sortK id ((MS (DR b s) h cs).map (rot b)) := by
  obtain ⟨d20, d0, dn, dm⟩ := t.c1
  obtain ⟨r1, r2, r3⟩ := t.c3
  have inj : ∀ x ∈ DR b s, ∀ y ∈ DR b s, rot b x = rot b y → x = y := fun x hx y hy e => by
    have key : ∀ l : List D, (l.map (rot b)).Nodup → ∀ x ∈ l, ∀ y ∈ l, rot b x = rot b y → x = y := by
      intro l
      induction l with
      | nil => intro _ x hx; cases hx
      | cons z l ih =>
        intro nd x hx y hy e
        obtain ⟨n1, n2⟩ := List.nodup_cons.mp nd
        rcases List.mem_cons.mp hx with a | a <;> rcases List.mem_cons.mp hy with c | c
        · rw [a, c]
        · rw [a] at e; exact absurd (List.mem_map.mpr ⟨y, c, e.symm⟩) n1
        · rw [c] at e; exact absurd (List.mem_map.mpr ⟨x, a, e⟩) n1
        · exact ih n2 x a y c e
    exact key _ r2 x hx y hy e
  have ndmap : ∀ l : List D, l.Nodup → (∀ x ∈ l, x ∈ DR b s) → (l.map (rot b)).Nodup := by
    intro l
    induction l with
    | nil => intro _ _; exact List.Pairwise.nil
    | cons z l ih =>
      intro nd sb
      obtain ⟨n1, n2⟩ := List.nodup_cons.mp nd
      refine List.nodup_cons.mpr ⟨fun hz => ?_, ih n2 fun x hx => sb x (.tail _ hx)⟩
      obtain ⟨y, hy, e⟩ := List.mem_map.mp hz
      rw [← inj y (sb y (.tail _ hy)) z (sb z (.head _)) e] at n1
      exact n1 hy
  have pm := sortK_perm id (cs.map (rot b))
  have memR : ∀ x, x ∈ sortK id (cs.map (rot b)) ↔ ∃ d ∈ cs, rot b d = x := fun x => by rw [pm.mem_iff, List.mem_map]
  have surj := nodup_perm (l := (DR b s).map (rot b)) (r := DR b s) r2 (fun x hx => by
    obtain ⟨d, hd, rfl⟩ := List.mem_map.mp hx
    exact r1 d hd) (by rw [List.length_map]; exact Nat.le_refl _)
  have mN : (MS (DR b s) h cs).Nodup := List.Pairwise.sublist List.filter_sublist dn
  have mS : ∀ x ∈ MS (DR b s) h cs, x ∈ DR b s := fun x hx => (mem_MS.mp hx).1
  have pm2 := sortK_perm id ((MS (DR b s) h cs).map (rot b))
  refine ⟨⟨fun x hx => ?_, pm.nodup_iff.mpr (ndmap cs c.nd c.sub), sortK_sorted id _, by rw [pm.length_eq, List.length_map]; exact c.le⟩, sorted_uniq (sorted_filter (sortK_sorted id _)) (sortK_sorted id _) (List.Pairwise.sublist List.filter_sublist dn) (pm2.nodup_iff.mpr (ndmap _ mN mS)) fun x => ?_⟩
  · obtain ⟨d, hd, rfl⟩ := (memR x).mp hx
    exact r1 d (c.sub d hd)
  · rw [pm2.mem_iff, List.mem_map, mem_MS]
    constructor
    · rintro ⟨h1, h2⟩
      obtain ⟨d, hd, rfl⟩ := List.mem_map.mp (surj.mem_iff.mp h1)
      refine ⟨d, mem_MS.mpr ⟨hd, fun e he => ?_⟩, rfl⟩
      have := h2 (rot b e) ((memR _).mpr ⟨e, he, rfl⟩)
      unfold hitB at this ⊢
      rwa [r3 e (c.sub e he) d hd] at this
    · rintro ⟨d, hd, rfl⟩
      obtain ⟨h1, h2⟩ := mem_MS.mp hd
      refine ⟨r1 d h1, fun e he => ?_⟩
      obtain ⟨e', he', rfl⟩ := (memR e).mp he
      have := h2 e' he'
      unfold hitB at this ⊢
      rwa [r3 e' (c.sub e' he') d h1]
theorem rep_ev {C : Cx} {env : Env} {a : Py.E} {x : T} {s : Nat} (hs : s ≤ 6) (ha : den C a env = .ret x) (h2 : getv env 2 = .ret (.int (s : Int))) : den C (.tup (.cons (.bin .mul (.tup (.cons a .nil)) (.var 2)) .nil)) env = .ret (.tup [.tup (List.replicate s x)]) :=
  tp1 (d_bin (x := .tup [x]) (y := .int (s : Int)) (tp1 ha) h2 (mul_one (by omega)))
theorem odd_rep (hn : 2 ≤ n) {b s h : Nat} (t : Tri b s h) {x : T} (hp : plain x = true) (hx : whole x 0 ((b : Int) - 1) = false) : callP PR W n 8 [.int (b : Int), .int (s : Int), .tup [.tup (List.replicate s x)]] = .ret (.bl false) := by
  refine f_3 (yss := [List.replicate s x]) hn (by have := t.b6; have := t.sb; omega) (fun ys hys => ?_) (by show 1 ≤ 20; decide) (fun ys hys => ?_) ?_
  · rw [List.mem_singleton.mp hys]
    exact plainL_of fun y hy => by rw [(List.mem_replicate.mp hy).2]; exact hp
  · rw [List.mem_singleton.mp hys, List.length_replicate]
  · have h0 : 0 < s := by have := t.h1; have := t.hs; omega
    obtain ⟨k, rfl⟩ : ∃ k, s = k + 1 := ⟨s - 1, by omega⟩
    show (((List.replicate (k + 1) x).all fun x => whole x 0 ((b : Int) - 1)) && true) = false
    rw [List.replicate_succ, List.all_cons, hx]; rfl
theorem odd_len (hn : 2 ≤ n) {b s : Nat} {x : T} (hp : plain x = true) (hx : tupOf x s s = false) : callP PR W n 8 [.int (b : Int), .int (s : Int), .tup [x]] = .ret (.bl false) :=
  f_2 hn (by show (plain x && true) = true; rw [hp]; rfl) (by show 1 ≤ 20; decide) (by show (tupOf x s s && true) = false; rw [hx]; rfl)
theorem odd_card (hn : 2 ≤ n) {b s h : Nat} (t : Tri b s h) {d : D} (hl : d.length = s) (hb : ∀ x ∈ d, 0 ≤ x ∧ x < (b : Int)) (hr : risB (fun a b : Int => decide (a < b)) d = false) : callP PR W n 8 [.int (b : Int), .int (s : Int), .tup [tI d]] = .ret (.bl false) := by
  have := f_4 (W := W) (n := n) hn (b := b) (s := s) (by have := t.b6; have := t.sb; omega) (cs := [d]) (by show 1 ≤ 20; decide) (fun c hc => by rw [List.mem_singleton.mp hc]; exact hl) (fun c hc => by rw [List.mem_singleton.mp hc]; exact hb)
  rw [show okC [d] = false by unfold okC; simp [hr]] at this
  exact this
theorem odd_more (hn : 2 ≤ n) {b s h : Nat} (t : Tri b s h) {cs : List D} (hc : ∀ c ∈ cs, c ∈ DR b s) (hr : risB ltI cs = false) : callP PR W n 8 [.int (b : Int), .int (s : Int), tC cs] = .ret (.bl false) := by
  obtain ⟨d20, d0, dn, dm⟩ := t.c1
  by_cases hl : cs.length ≤ 20
  · rw [f_4 hn (by have := t.b6; have := t.sb; omega) hl (fun x hx => (dm x (hc x hx)).1) fun x hx => (dm x (hc x hx)).2.2]
    unfold okC
    rw [hr, Bool.and_false]
  · refine f_1 hn (plain_tC cs) ?_
    show (decide ((0 : Int) ≤ ((cs.map tI).length : Nat)) && decide (((cs.map tI).length : Int) ≤ 20)) = false
    rw [List.length_map, decide_eq_false (p := ((cs.length : Nat) : Int) ≤ 20) (by omega), Bool.and_false]
theorem odd_none (hn : 2 ≤ n) {b s h : Nat} (t : Tri b s h) {cs : List D} : callP PR W n 8 [.int (b : Int), .int (s : Int), .tup (cs.map tI ++ [.non])] = .ret (.bl false) := by
  have hp : plainL (cs.map tI ++ [.non]) = true := plainL_app (tC_plain cs) rfl
  by_cases hl : (cs.map tI ++ [T.non]).length ≤ 20
  · refine f_2 hn hp hl ?_
    rw [List.all_append]
    exact Bool.and_false _
  · refine f_1 hn hp ?_
    show (decide ((0 : Int) ≤ ((cs.map tI ++ [T.non]).length : Nat)) && decide (((cs.map tI ++ [T.non]).length : Int) ≤ 20)) = false
    rw [decide_eq_false (p := (((cs.map tI ++ [T.non]).length : Nat) : Int) ≤ 20) (by omega), Bool.and_false]
theorem ris_twice {q : List D} (hne : q ≠ []) : risB ltI (q ++ q.take 1) = false := by
  cases q with
  | nil => exact absurd rfl hne
  | cons x r =>
    cases e : risB ltI (x :: r ++ (x :: r).take 1) with
    | false => rfl
    | true =>
      have := risB_pw (fun a b c => ltI_trans a b c) e
      have := (List.pairwise_cons.mp this).1 x (List.mem_append_right _ (.head _))
      rw [ltI_irr] at this; cases this
theorem ris_back {q : List D} (h2 : 2 ≤ q.length) (hq : risB ltI q = true) : risB ltI q.reverse = false := by
  match q, h2 with
  | x :: y :: r, _ =>
    cases e : risB ltI (x :: y :: r).reverse with
    | false => rfl
    | true =>
      have h1 := risB_pw (fun a b c => ltI_trans a b c) hq
      have h3 := risB_pw (fun a b c => ltI_trans a b c) e
      rw [List.pairwise_reverse] at h3
      have a1 := (List.pairwise_cons.mp h1).1 y (.head _)
      have a2 := (List.pairwise_cons.mp h3).1 y (.head _)
      rw [ltI_asym a1] at a2; cases a2
end
end Law

set_option linter.all false
set_option autoImplicit false
set_option maxRecDepth 100000
namespace Law
open Py Py.K31
section
variable {W n : Nat}
/-- what is built at the end: none of it is a sure set -/
theorem right_end (hn : 3 ≤ n) {b s h : Nat} (t : Tri b s h) {O : List T} (hO : O.length ≤ 100) (no : ∀ v ∈ O, callP PR W (n - 1) 8 [.int (b : Int), .int (s : Int), v] = .ret (.bl false)) {e : Env} (e1 : getv e 1 = .ret (.int (b : Int))) (e2 : getv e 2 = .ret (.int (s : Int))) (e3 : getv e 3 = .ret (.int (h : Int))) (e14 : getv e 14 = .ret (.lst O)) (hl : e.length = 16) :
    W0 (exec ⟨callP PR W n, W⟩ (.seq (.ret (.cmp .eq (.lc (.n 15) (.var 14) (.cmp .isnt (.call 11 (.cons (.var 1) (.cons (.var 2) (.cons (.var 3) (.cons (.var 15) .nil))))) (.con (.bl false))) [15] (.var 15)) (.lst .nil))) .skip) e) fun r => r = .rt (.bl true) := by
  have key := lc_evA (C := ⟨callP PR W n, W⟩) (env := e) (tgt := .n 15) (own := [15]) (it := .var 14) (c := .cmp .isnt (.call 11 (.cons (.var 1) (.cons (.var 2) (.cons (.var 3) (.cons (.var 15) .nil))))) (.con (.bl false))) (el := .var 15) id O (fun v => setv (wipe1 e 15) 15 v) (fun _ => false) id ((den_var 14).trans e14) (by rw [List.map_id]; rfl) (lim_le (by omega)) fun v hv => ⟨rfl, d_cmp (x := .bl false) (y := .bl false) (d_call4 (x := .int (b : Int)) (y := .int (s : Int)) (z := .int (h : Int)) (u := v) ((den_var 1).trans (by rw [gs_ne (by decide)]; show getv (wipe1 e 15) 1 = _; rw [gw_ne (by decide)]; exact e1)) ((den_var 2).trans (by rw [gs_ne (by decide)]; show getv (wipe1 e 15) 2 = _; rw [gw_ne (by decide)]; exact e2)) ((den_var 3).trans (by rw [gs_ne (by decide)]; show getv (wipe1 e 15) 3 = _; rw [gw_ne (by decide)]; exact e3)) ((den_var 15).trans (gs_eq (by rw [wipe1_len, hl]; decide))) (s_sure0 hn t (no v hv))) rfl rfl, fun z => (by cases z)⟩
  rw [filter_none fun _ _ => rfl] at key
  exact ws_ret (d_cmp (x := .lst []) (y := .lst []) key nill rfl) rfl
theorem down_ev (s : Nat) (hs : s ≤ 6) (h1 : 1 ≤ s) : rngdM ((s : Int) - 1) (-1) = .ret (tI ((List.range s).map fun i : Nat => (s : Int) - 1 - (i : Int))) := by
  have e : ((s : Int) - 1 - (-1)).toNat = s := by omega
  have hr : ∀ a : Int, -10 ≤ a → a ≤ 10 → rngOk a = true := fun a h1 h2 => by
    unfold rngOk
    rw [decide_eq_true (by omega), decide_eq_true (by omega)]; rfl
  unfold rngdM
  rw [hr _ (by omega) (by omega), hr _ (by omega) (by omega), e, decide_eq_true (lim_le (by omega))]
  show M.ret (T.tup _) = _
  rw [tI, List.map_map]; rfl
theorem down_ris {s : Nat} (hs : 2 ≤ s) : risB (fun a b : Int => decide (a < b)) ((List.range s).map fun i : Nat => (s : Int) - 1 - (i : Int)) = false := by
  obtain ⟨k, rfl⟩ : ∃ k, s = k + 2 := ⟨s - 2, by omega⟩
  rw [List.range_succ_eq_map, List.map_cons, List.map_map, List.range_succ_eq_map, List.map_cons]
  show (decide _ && _) = false
  rw [decide_eq_false (by show ¬ (((k + 2 : Nat) : Int) - 1 - (0 : Int) < ((k + 2 : Nat) : Int) - 1 - ((1 : Nat) : Int)); omega), Bool.false_and]
theorem rep0_ris {s : Nat} (hs : 2 ≤ s) : risB (fun a b : Int => decide (a < b)) (List.replicate s 0) = false := by
  obtain ⟨k, rfl⟩ : ∃ k, s = k + 2 := ⟨s - 2, by omega⟩
  rw [List.replicate_succ, List.replicate_succ]
  show (decide ((0 : Int) < 0) && risB (fun a b : Int => decide (a < b)) (0 :: List.replicate k 0)) = false
  rw [decide_eq_false (by omega), Bool.false_and]
theorem w_call3E {C : Cx} {env : Env} {f : Nat} {a b c : Py.E} {x y z : T} {Q : T → Prop} (h : den C a env = .ret x) (h2 : den C b env = .ret y) (h3 : den C c env = .ret z) (k : W0 (C.call f [x, y, z]) Q) : W0 (den C (.call f (.cons a (.cons b (.cons c .nil)))) env) Q := w0_eq (d_call3 h h2 h3 rfl) k
theorem rng_tup {C : Cx} {env : Env} {a : Py.E} {k : Nat} (hk : k ≤ 100) (h : den C a env = .ret (.int (k : Int))) : den C (.rngs true (.rng1 a)) env = .ret (.tup ((List.range k).map fun i : Nat => T.int (i : Int))) :=
  d_rngs (b := true) (d_rng1 h (by omega)) rfl
theorem rng_lst {C : Cx} {env : Env} {a : Py.E} {k : Nat} (hk : k ≤ 100) (h : den C a env = .ret (.int (k : Int))) : den C (.rngs false (.rng1 a)) env = .ret (.lst ((ballsZ k).map T.int)) := by
  have e : (ballsZ k).map T.int = (List.range k).map fun i : Nat => T.int (i : Int) := by unfold ballsZ; rw [List.map_map]; rfl
  rw [e]
  exact d_rngs (b := false) (d_rng1 h (by omega)) rfl
theorem lenC (cs : List D) : biM .len [tC cs] = .ret (.int (cs.length : Nat)) := by
  show M.ret (T.int ((cs.map tI).length : Nat)) = _
  rw [List.length_map]
theorem s_right (hn : 8 ≤ n) (hW : 21 ^ 20 < W) : W0 (callP PR W n 19 [.cup]) fun t => t = .bl true := by
  obtain ⟨n, rfl⟩ : ∃ k, n = k + 1 := ⟨n - 1, by omega⟩
  refine w0_run (F := c__law_right) rfl rfl ?_
  show W0 (exec _ _ [some .cup, none, none, none, none, none, none, none, none, none, none, none, none, none, none, none]) _
  refine ws_asg1 (k := 6) rfl rfl (by decide) (by decide) fun b b1 b6 => ?_
  show W0 (exec _ _ [some .cup, some (.int (b : Int)), none, none, none, none, none, none, none, none, none, none, none, none, none, none]) _
  refine ws_asg1 (k := b) rfl rfl (by omega) (by omega) fun s s1 sb => ?_
  show W0 (exec _ _ [some .cup, some (.int (b : Int)), some (.int (s : Int)), none, none, none, none, none, none, none, none, none, none, none, none, none]) _
  refine ws_parW (w0_consE (w0_add1E (w0_rollE (k := s) rfl rfl (by omega) (by omega) fun h0 z0 z1 => ⟨h0, rfl, ?_⟩)))
  obtain ⟨h, hh, h1, hs⟩ : ∃ h : Nat, 1 + h0 = (h : Int) ∧ 1 ≤ h ∧ h ≤ s := ⟨(1 + h0).toNat, by omega, by omega, by omega⟩
  rw [hh]
  have t : Tri b s h := ⟨by omega, by omega, h1, hs⟩
  obtain ⟨d20, d0, dn, dm⟩ := t.c1
  have s6 : s ≤ 6 := by omega
  have dl : ∀ d ∈ DR b s, d.length ≤ 1000 := fun d hd => by have := (dm d hd).1; omega
  refine w0_consE (w0_ret (d_call2 rfl rfl (s_draws (by omega) t)) (w0_val ⟨[], rfl, _, rfl, _, [some .cup, some (.int (b : Int)), some (.int (s : Int)), some (.int (h : Int)), some (lC (DR b s)), none, none, none, none, none, none, none, none, none, none, none], rfl, rfl, ?_⟩))
  refine ws_asgW (w_call3E (x := .cup) (y := lC (DR b s)) (z := .int 6) rfl rfl rfl (s_somec (by omega) t fun cs c hl6 => ?_))
  show W0 (exec _ _ [some .cup, some (.int (b : Int)), some (.int (s : Int)), some (.int (h : Int)), some (lC (DR b s)), some (tC cs), none, none, none, none, none, none, none, none, none, none]) _
  refine ws_asg (t := lC (MS (DR b s) h cs)) (d_call4 (x := .int (b : Int)) (y := .int (s : Int)) (z := .int (h : Int)) (u := tC cs) rfl rfl rfl rfl (s_lmissed (by omega) t (by omega) fun x hx => dl x (c.sub x hx))) ?_
  show W0 (exec _ _ [some .cup, some (.int (b : Int)), some (.int (s : Int)), some (.int (h : Int)), some (lC (DR b s)), some (tC cs), some (lC (MS (DR b s) h cs)), none, none, none, none, none, none, none, none, none]) _
  have mS : ∀ x ∈ MS (DR b s) h cs, x ∈ DR b s := fun x hx => (mem_MS.mp hx).1
  have mL : (MS (DR b s) h cs).length ≤ 20 := Nat.le_trans (List.length_filter_le _ _) d20
  have rm := rot_miss (h := h) t c
  have cov : MS (DR b s) h cs = [] → Cov (DR b s) h cs := fun z => ⟨c.sub, z⟩
  have sure := s_sure (W := W) (n := n) (by omega) t c
  have miss := s_missedC (W := W) (n := n) (by omega) t c
  have missR := s_missedC (W := W) (n := n) (by omega) t rm.1
  rw [rm.2] at missR
  generalize MS (DR b s) h cs = M0 at mS mL cov sure miss missR
  have emp : (M0.map tI).isEmpty = M0.isEmpty := by cases M0 <;> rfl
  -- told
  have hd : dep (.tup [tC M0, .bl M0.isEmpty]) < n := by
    have := dep_tC M0
    show max (dep (tC M0)) (max 0 0) + 1 < n
    omega
  have hg : good (.tup [tC M0, .bl M0.isEmpty]) = true := by
    have := good_tC (cs := M0) (by omega) fun x hx => dl x (mS x hx)
    show (decide (2 ≤ 16777216) && (good (tC M0) && (true && true))) = true
    rw [this]; rfl
  refine ws_no (d_not' (x := true) (d_call2 (x := .tup [tC M0, .bl M0.isEmpty]) (y := .tup [tC M0, .bl M0.isEmpty]) (tp2 (d_call4 (x := .int (b : Int)) (y := .int (s : Int)) (z := .int (h : Int)) (u := tC cs) rfl rfl rfl rfl miss) (d_call4 (x := .int (b : Int)) (y := .int (s : Int)) (z := .int (h : Int)) (u := tC cs) rfl rfl rfl rfl sure)) (tp2 (d_bi1 (x := lC M0) rfl rfl) (d_cmp (x := lC M0) (y := .lst []) rfl nill ((ceql (tC_plain M0)).trans (by rw [emp])))) (s_same _ hd hg)) rfl) ?_
  -- few
  obtain ⟨q, eq, fq, sq⟩ := s_few (W := W) (n := n) (by omega) hW t
  obtain ⟨q1, q20⟩ := t.len fq
  have cq : Cards b s q := ⟨fq.sub, fq.nd, sq, q20⟩
  refine ws_asg (t := tC q) (d_call3 rfl rfl rfl eq) ?_
  show W0 (exec _ _ [some .cup, some (.int (b : Int)), some (.int (s : Int)), some (.int (h : Int)), some (lC (DR b s)), some (tC cs), some (lC M0), some (tC q), none, none, none, none, none, none, none, none]) _
  refine ws_no (d_or (x := false) (y := false) (d_not' (x := true) (d_bi1 (x := tC q) rfl rfl) rfl) fun _ => d_or (x := false) (y := false) (d_cmp (x := .bl true) (y := .bl true) ((d_call4 (x := .int (b : Int)) (y := .int (s : Int)) (z := .int (h : Int)) (u := tC q) rfl rfl rfl rfl (s_sure (by omega) t cq)).trans (by rw [fq.all]; rfl)) rfl rfl) fun _ => d_cmp (x := tC []) (y := tC []) ((d_call4 (x := .int (b : Int)) (y := .int (s : Int)) (z := .int (h : Int)) (u := tC q) rfl rfl rfl rfl (s_missedC (by omega) t cq)).trans (by rw [fq.all])) nilt (cne_tC [] [])) ?_
  -- one less
  have key := lc_evA (C := ⟨callP PR W n, W⟩) (env := [some .cup, some (.int (b : Int)), some (.int (s : Int)), some (.int (h : Int)), some (lC (DR b s)), some (tC cs), some (lC M0), some (tC q), none, none, none, none, none, none, none, none]) (tgt := .n 8) (own := [8]) (it := .var 7) (c := .call 11 (.cons (.var 1) (.cons (.var 2) (.cons (.var 3) (.cons (.bi .tuple (.cons (.lc (.n 9) (.var 7) (.cmp .ne (.var 9) (.var 8)) [9] (.var 9)) .nil)) .nil))))) (el := .var 8) tI q (fun d => [some .cup, some (.int (b : Int)), some (.int (s : Int)), some (.int (h : Int)), some (lC (DR b s)), some (tC cs), some (lC M0), some (tC q), some (tI d), none, none, none, none, none, none, none]) (fun _ => false) tI (t := tC q) rfl rfl (lim_le (by omega)) fun d hd => ⟨rfl, by
    have cf : Cards b s (q.filter fun x => !decide (x = d)) := ⟨fun x hx => fq.sub x (List.mem_filter.mp hx).1, List.Pairwise.sublist List.filter_sublist fq.nd, sorted_filter sq, Nat.le_trans (List.length_filter_le _ _) q20⟩
    refine (d_call4 (x := .int (b : Int)) (y := .int (s : Int)) (z := .int (h : Int)) (u := tC (q.filter fun x => !decide (x = d))) rfl rfl rfl (d_bi1 (x := lC (q.filter fun x => !decide (x = d))) (lc_evA tI q (fun x => [some .cup, some (.int (b : Int)), some (.int (s : Int)), some (.int (h : Int)), some (lC (DR b s)), some (tC cs), some (lC M0), some (tC q), some (tI d), some (tI x), none, none, none, none, none, none]) (fun x => !decide (x = d)) tI (t := tC q) rfl rfl (lim_le (by omega)) fun x hx => ⟨rfl, d_cmp (x := tI x) (y := tI d) rfl rfl (cne_tI x d), fun _ => rfl⟩) rfl) (s_sure (by omega) t cf)).trans ?_
    have := few_less fq hd
    cases e : MS (DR b s) h (q.filter fun x => !decide (x = d)) with
    | nil => exact absurd e this
    | cons _ _ => rfl, fun z => (by cases z)⟩
  rw [filter_none fun _ _ => rfl] at key
  refine ws_no (d_cmp (x := .lst []) (y := .lst []) key nill rfl) ?_
  -- fewer hits, more cards
  refine ws_no (d_or (x := false) (y := false) ?_ fun _ => ?_) ?_
  · by_cases hh2 : 1 < h
    · have t2 : Tri b s (h - 1) := ⟨t.b6, t.sb, by omega, by omega⟩
      obtain ⟨q', eq', fq', _⟩ := s_few (W := W) (n := n) (by omega) hW t2
      have mono := few_mono (k := h - 1) t (by omega) fq fq'
      refine d_and (x := true) (y := false) (d_cmp (x := .int (h : Int)) (y := .int 1) rfl rfl ((cgt_int' _ _).trans (by congr 2; exact decide_eq_true (by omega)))) fun _ => d_cmp (x := .int (q'.length : Nat)) (y := .int (q.length : Nat)) (d_bi1 (x := tC q') (d_call3 (x := .int (b : Int)) (y := .int (s : Int)) (z := .int ((h - 1 : Nat) : Int)) rfl rfl (d_bin (x := .int (h : Int)) (y := .int 1) rfl rfl (by
        show M.ret (T.int ((h : Int) - 1)) = _
        congr 2; omega)) eq') (lenC q')) (d_bi1 (x := tC q) rfl (lenC q)) ((cgt_int' _ _).trans (by congr 2; exact decide_eq_false (by omega)))
    · exact d_and (x := false) (y := true) (d_cmp (x := .int (h : Int)) (y := .int 1) rfl rfl ((cgt_int' _ _).trans (by congr 2; exact decide_eq_false (by omega)))) fun z => nomatch z
  · cases e : M0.isEmpty with
    | false => exact d_and (x := false) (y := true) (d_cmp (x := lC M0) (y := .lst []) rfl nill ((ceql (tC_plain M0)).trans (by rw [emp, e]))) fun z => nomatch z
    | true =>
      have := fq.le cs (cov (isEmpty_nil e))
      exact d_and (x := true) (y := false) (d_cmp (x := lC M0) (y := .lst []) rfl nill ((ceql (tC_plain M0)).trans (by rw [emp, e]))) fun _ => d_cmp (x := .int (cs.length : Nat)) (y := .int (q.length : Nat)) (d_bi1 (x := tC cs) rfl (lenC cs)) (d_bi1 (x := tC q) rfl (lenC q)) ((clt_int _ _).trans (by congr 2; exact decide_eq_false (by omega)))
  -- the balls by other names
  refine ws_asg (t := .lst ((ballsZ b).map T.int)) (rng_lst (by omega) rfl) ?_
  show W0 (exec _ _ [some .cup, some (.int (b : Int)), some (.int (s : Int)), some (.int (h : Int)), some (lC (DR b s)), some (tC cs), some (lC M0), some (tC q), none, none, some (.lst ((ballsZ b).map T.int)), none, none, none, none, none]) _
  have bl : (ballsZ b).length = b := by unfold ballsZ; rw [List.length_map, List.length_range]
  refine ws_asg (t := .lst (((ballsZ b).drop 1 ++ (ballsZ b).take 1).map T.int)) (d_bin (x := .lst (((ballsZ b).map T.int).drop 1)) (y := .lst (((ballsZ b).map T.int).take 1)) (d_slc (x := .lst ((ballsZ b).map T.int)) (l := some 1) (h := none) rfl rfl rfl (show M.ret (T.lst (cutT ((ballsZ b).map T.int) (some ((1 : Nat) : Int)) none)) = _ by rw [cut_drop])) (d_slc (x := .lst ((ballsZ b).map T.int)) (l := none) (h := some 1) rfl rfl rfl (show M.ret (T.lst (cutT ((ballsZ b).map T.int) none (some ((1 : Nat) : Int)))) = _ by rw [cut_take])) (by
    rw [add_lst (by rw [List.length_drop, List.length_take, List.length_map]; omega), ← List.map_drop, ← List.map_take, ← List.map_append])) ?_
  show W0 (exec _ _ [some .cup, some (.int (b : Int)), some (.int (s : Int)), some (.int (h : Int)), some (lC (DR b s)), some (tC cs), some (lC M0), some (tC q), none, none, some (.lst (((ballsZ b).drop 1 ++ (ballsZ b).take 1).map T.int)), none, none, none, none, none]) _
  generalize hNM : T.lst (((ballsZ b).drop 1 ++ (ballsZ b).take 1).map T.int) = NM
  have rne : ∀ d, d ∈ DR b s → rot b d ≠ [] := fun d hd z => by
    have := (dm _ (t.c3.1 d hd)).1
    rw [z] at this; simp at this; omega
  refine ws_asg (t := tC (sortK id (cs.map (rot b)))) (d_bi1 (x := lC (sortK id (cs.map (rot b)))) (d_bi1 (x := lC (cs.map (rot b))) ?_ (sorted_tI fun x hx => ?_)) rfl) ?_
  · show den _ _ _ = M.ret (T.lst ((cs.map (rot b)).map tI))
    rw [List.map_map]
    refine lc_mapA tI cs (fun d => [some .cup, some (.int (b : Int)), some (.int (s : Int)), some (.int (h : Int)), some (lC (DR b s)), some (tC cs), some (lC M0), some (tC q), some (tI d), none, some NM, none, none, none, none, none]) (fun d => tI (rot b d)) (t := tC cs) rfl rfl (lim_le (by omega)) fun d hd => ⟨rfl, rot_ev (i := 8) (by omega) t (dm d (c.sub d hd)).2.2 (by have := (dm d (c.sub d hd)).1; omega) (by decide) (by decide) rfl (by rw [hNM]; rfl) rfl⟩
  · obtain ⟨d, hd, rfl⟩ := List.mem_map.mp hx
    exact rne d (c.sub d hd)
  show W0 (exec _ _ [some .cup, some (.int (b : Int)), some (.int (s : Int)), some (.int (h : Int)), some (lC (DR b s)), some (tC cs), some (lC M0), some (tC q), none, none, some NM, some (tC (sortK id (cs.map (rot b)))), none, none, none, none]) _
  refine ws_no (d_cmp (x := tC (sortK id (M0.map (rot b)))) (y := tC (sortK id (M0.map (rot b)))) (d_call4 (x := .int (b : Int)) (y := .int (s : Int)) (z := .int (h : Int)) (u := tC (sortK id (cs.map (rot b)))) rfl rfl rfl rfl missR) (d_bi1 (x := lC (sortK id (M0.map (rot b)))) (d_bi1 (x := lC (M0.map (rot b))) ?_ (sorted_tI fun x hx => ?_)) rfl) ((cne_tC _ _).trans (by rw [decide_eq_true rfl]; rfl))) ?_
  · show den _ _ _ = M.ret (T.lst ((M0.map (rot b)).map tI))
    rw [List.map_map]
    refine lc_mapA tI M0 (fun d => [some .cup, some (.int (b : Int)), some (.int (s : Int)), some (.int (h : Int)), some (lC (DR b s)), some (tC cs), some (lC M0), some (tC q), none, none, some NM, some (tC (sortK id (cs.map (rot b)))), none, some (tI d), none, none]) (fun d => tI (rot b d)) (t := lC M0) rfl rfl (lim_le (by omega)) fun d hd => ⟨rfl, rot_ev (i := 13) (by omega) t (dm d (mS d hd)).2.2 (by have := (dm d (mS d hd)).1; omega) (by decide) (by decide) rfl (by rw [hNM]; rfl) rfl⟩
  · obtain ⟨d, hd, rfl⟩ := List.mem_map.mp hx
    exact rne d (mS d hd)
  -- what is no sure set
  generalize tC (sortK id (cs.map (rot b))) = OT
  have qne : q ≠ [] := fun z => by rw [z] at q1; simp at q1
  have qT : (if 1 < q.length then tC q.reverse else T.int 5) = if 1 < q.length then tC q.reverse else T.int 5 := rfl
  refine ws_asg (t := .lst [.non, .lst (q.map tI), .tup (q.map tI ++ [.non]), tC (q ++ q.take 1), if 1 < q.length then tC q.reverse else .int 5, .tup [.tup ((List.range (s + 1)).map fun i : Nat => T.int (i : Int))]]) (d_lst (d_cons rfl (d_cons (d_bi1 (x := tC q) rfl rfl) (d_cons (d_bin (x := tC q) (y := .tup [.non]) rfl (tp1 rfl) (add_tup (by rw [List.length_map]; show q.length + 1 ≤ 1000000; omega))) (d_cons (d_bin (x := tC q) (y := .tup ((q.map tI).take 1)) rfl (d_slc (x := tC q) (l := none) (h := some 1) rfl rfl rfl (show M.ret (T.tup (cutT (q.map tI) none (some ((1 : Nat) : Int)))) = _ by rw [cut_take])) (by rw [add_tup (by rw [List.length_take, List.length_map]; omega), tC, List.map_append, List.map_take])) (d_cons ?_ (d_cons (tp1 (rng_tup (k := s + 1) (by omega) rfl)) rfl)))))) (by show 6 ≤ lim; decide)) ?_
  · refine d_ite (x := decide (1 < q.length)) (d_cmp (x := .int (q.length : Nat)) (y := .int 1) (d_bi1 (x := tC q) rfl (lenC q)) rfl ((cgt_int' _ _).trans (by congr 2; exact decide_eq_decide.mpr (by omega)))) ?_
    by_cases z : 1 < q.length
    · rw [if_pos z, if_pos (decide_eq_true z)]
      exact d_rev (x := tC q) rfl (by show M.ret (T.tup (q.map tI).reverse) = _; rw [← List.map_reverse])
    · rw [if_neg z, if_neg (by simpa using z)]; rfl
  show W0 (exec _ _ [some .cup, some (.int (b : Int)), some (.int (s : Int)), some (.int (h : Int)), some (lC (DR b s)), some (tC cs), some (lC M0), some (tC q), none, none, some NM, some OT, none, none, some (.lst [.non, .lst (q.map tI), .tup (q.map tI ++ [.non]), tC (q ++ q.take 1), if 1 < q.length then tC q.reverse else .int 5, .tup [.tup ((List.range (s + 1)).map fun i : Nat => T.int (i : Int))]]), none]) _
  have no1 : ∀ v ∈ [T.non, .lst (q.map tI), .tup (q.map tI ++ [.non]), tC (q ++ q.take 1), if 1 < q.length then tC q.reverse else .int 5, .tup [.tup ((List.range (s + 1)).map fun i : Nat => T.int (i : Int))]], callP PR W (n - 1) 8 [.int (b : Int), .int (s : Int), v] = .ret (.bl false) := by
    intro v hv
    simp only [List.mem_cons, List.not_mem_nil, or_false] at hv
    rcases hv with rfl | rfl | rfl | rfl | rfl | rfl
    · exact f_1 (by omega) rfl rfl
    · exact f_1 (by omega) (tC_plain q) rfl
    · exact odd_none (by omega) t
    · exact odd_more (by omega) t (fun x hx => (List.mem_append.mp hx).elim (fq.sub x) fun z => fq.sub x (List.mem_of_mem_take z)) (ris_twice qne)
    · by_cases z : 1 < q.length
      · rw [if_pos z]
        exact odd_more (by omega) t (fun x hx => fq.sub x (List.mem_reverse.mp hx)) (ris_back (by omega) (sorted_risI sq fq.nd))
      · rw [if_neg z]
        exact f_1 (by omega) rfl rfl
    · refine odd_len (by omega) (plainL_of fun x hx => ?_) ?_
      · obtain ⟨i, _, rfl⟩ := List.mem_map.mp hx; rfl
      · show (decide ((s : Int) ≤ (((List.range (s + 1)).map fun i : Nat => T.int (i : Int)).length : Nat)) && decide (((((List.range (s + 1)).map fun i : Nat => T.int (i : Int)).length : Nat) : Int) ≤ s)) = false
        rw [List.length_map, List.length_range, decide_eq_false (p := (((s + 1 : Nat) : Int) ≤ s)) (by omega), Bool.and_false]
  generalize hO1 : [T.non, .lst (q.map tI), .tup (q.map tI ++ [.non]), tC (q ++ q.take 1), if 1 < q.length then tC q.reverse else .int 5, .tup [.tup ((List.range (s + 1)).map fun i : Nat => T.int (i : Int))]] = O1 at no1
  have l1 : O1.length = 6 := by rw [← hO1]; rfl
  refine ws_asg (t := .lst (O1 ++ [.tup [.tup (List.replicate s (.int (b : Int)))], .tup [.tup (List.replicate s (.int (-1)))], .tup [.lst ((ballsZ s).map T.int)], .tup [.tup (List.replicate s (.bl true))], .tup [.tup (List.replicate s (.str [48]))]])) (d_bin rfl (d_lst (d_cons (rep_ev s6 rfl rfl) (d_cons (rep_ev s6 rfl rfl) (d_cons (tp1 (rng_lst (by omega) rfl)) (d_cons (rep_ev s6 rfl rfl) (d_cons (rep_ev s6 rfl rfl) rfl))))) (by show 5 ≤ lim; decide)) (add_lst (by rw [l1]; show 6 + 5 ≤ 1000000; decide))) ?_
  have no2 : ∀ v ∈ O1 ++ [.tup [.tup (List.replicate s (.int (b : Int)))], .tup [.tup (List.replicate s (.int (-1)))], .tup [.lst ((ballsZ s).map T.int)], .tup [.tup (List.replicate s (.bl true))], .tup [.tup (List.replicate s (.str [48]))]], callP PR W (n - 1) 8 [.int (b : Int), .int (s : Int), v] = .ret (.bl false) := by
    intro v hv
    rcases List.mem_append.mp hv with hv | hv
    · exact no1 v hv
    · simp only [List.mem_cons, List.not_mem_nil, or_false] at hv
      rcases hv with rfl | rfl | rfl | rfl | rfl
      · exact odd_rep (by omega) t rfl (by show (decide ((0 : Int) ≤ (b : Int)) && decide ((b : Int) ≤ (b : Int) - 1)) = false; rw [decide_eq_false (p := ((b : Int) ≤ (b : Int) - 1)) (by omega), Bool.and_false])
      · exact odd_rep (by omega) t rfl rfl
      · exact odd_len (by omega) (plainL_int _) rfl
      · exact odd_rep (by omega) t rfl rfl
      · exact odd_rep (by omega) t rfl rfl
  have l2 : (O1 ++ [T.tup [.tup (List.replicate s (.int (b : Int)))], .tup [.tup (List.replicate s (.int (-1)))], .tup [.lst ((ballsZ s).map T.int)], .tup [.tup (List.replicate s (.bl true))], .tup [.tup (List.replicate s (.str [48]))]]).length = 11 := by rw [List.length_append, l1]; rfl
  generalize (O1 ++ [.tup [.tup (List.replicate s (.int (b : Int)))], .tup [.tup (List.replicate s (.int (-1)))], .tup [.lst ((ballsZ s).map T.int)], .tup [.tup (List.replicate s (.bl true))], .tup [.tup (List.replicate s (.str [48]))]] : List T) = O2 at no2 l2
  show W0 (exec _ _ [some .cup, some (.int (b : Int)), some (.int (s : Int)), some (.int (h : Int)), some (lC (DR b s)), some (tC cs), some (lC M0), some (tC q), none, none, some NM, some OT, none, none, some (.lst O2), none]) _
  have fin : ∀ O : List T, O.length ≤ 100 → (∀ v ∈ O, callP PR W (n - 1) 8 [.int (b : Int), .int (s : Int), v] = .ret (.bl false)) → W0 (exec ⟨callP PR W n, W⟩ (.seq (.ret (.cmp .eq (.lc (.n 15) (.var 14) (.cmp .isnt (.call 11 (.cons (.var 1) (.cons (.var 2) (.cons (.var 3) (.cons (.var 15) .nil))))) (.con (.bl false))) [15] (.var 15)) (.lst .nil))) .skip) [some .cup, some (.int (b : Int)), some (.int (s : Int)), some (.int (h : Int)), some (lC (DR b s)), some (tC cs), some (lC M0), some (tC q), none, none, some NM, some OT, none, none, some (.lst O), none]) fun r => r = .rt (.bl true) := fun O ho no => right_end (by omega) t ho no rfl rfl rfl rfl rfl
  have gt : den ⟨callP PR W n, W⟩ (.cmp .gt (.var 2) (.con (.int 1))) [some .cup, some (.int (b : Int)), some (.int (s : Int)), some (.int (h : Int)), some (lC (DR b s)), some (tC cs), some (lC M0), some (tC q), none, none, some NM, some OT, none, none, some (.lst O2), none] = .ret (.bl (decide (1 < s))) := d_cmp (x := .int (s : Int)) (y := .int 1) rfl rfl ((cgt_int' _ _).trans (by congr 2; exact decide_eq_decide.mpr (by omega)))
  by_cases s2 : 1 < s
  · refine ws_then (gt.trans (by rw [decide_eq_true s2])) ?_
    refine ws_asg (t := .lst (O2 ++ [.tup [tI ((List.range s).map fun i : Nat => (s : Int) - 1 - (i : Int))], .tup [.tup (List.replicate s (.int 0))]])) (d_bin rfl (d_lst (d_cons (tp1 ?_) (d_cons (rep_ev s6 rfl rfl) rfl)) (by show 2 ≤ lim; decide)) (add_lst (by rw [l2]; show 11 + 2 ≤ 1000000; decide))) ?_
    · have e : den ⟨callP PR W n, W⟩ (.rngd (.bin .sub (.var 2) (.con (.int 1))) (.neg (.con (.int 1)))) [some .cup, some (.int (b : Int)), some (.int (s : Int)), some (.int (h : Int)), some (lC (DR b s)), some (tC cs), some (lC M0), some (tC q), none, none, some NM, some OT, none, none, some (.lst O2), none] = rngdM ((s : Int) - 1) (-1) := rfl
      exact e.trans (down_ev s s6 (by omega))
    · refine ws_skip ?_
      refine (fin _ (by rw [List.length_append, l2]; show 11 + 2 ≤ 100; decide) fun v hv => ?_).mono fun r hr => by subst hr; rfl
      rcases List.mem_append.mp hv with hv | hv
      · exact no2 v hv
      · simp only [List.mem_cons, List.not_mem_nil, or_false] at hv
        rcases hv with rfl | rfl
        · refine odd_card (by omega) t (by rw [List.length_map, List.length_range]) (fun x hx => ?_) (down_ris (by omega))
          obtain ⟨i, hi, rfl⟩ := List.mem_map.mp hx
          have := List.mem_range.mp hi
          omega
        · have e : T.tup (List.replicate s (.int 0)) = tI (List.replicate s 0) := by rw [tI, List.map_replicate]
          rw [e]
          exact odd_card (by omega) t List.length_replicate (fun x hx => by rw [(List.mem_replicate.mp hx).2]; omega) (rep0_ris (by omega))
  · exact ws_no (gt.trans (by rw [decide_eq_false s2])) ((fin O2 (by omega) no2).mono fun r hr => by subst hr; rfl)
end
end Law

set_option linter.all false
set_option autoImplicit false
set_option maxRecDepth 100000
namespace Law
open Py Py.K31
def T3 (p : Nat × Nat × Nat) : T := .tup [.int (p.1 : Int), .int (p.2.1 : Int), .int (p.2.2 : Int)]
def LL : List (Nat × Nat × Nat) := [(3, 2, 1), (4, 2, 1), (4, 2, 2), (4, 3, 2), (5, 2, 1), (5, 3, 2), (5, 4, 3), (4, 1, 1), (5, 1, 1), (6, 5, 4), (6, 1, 1)]
theorem LL_ok : ∀ p ∈ LL, p.1 ≤ 6 ∧ p.2.1 ≤ p.1 ∧ 1 ≤ p.2.2 ∧ p.2.2 ≤ p.2.1 ∧ (DR p.1 p.2.1).length ≤ 10 := by decide +kernel
def L5 : List ((Nat × Nat × Nat) × Nat) := [((6, 3, 1), 2), ((6, 3, 2), 2), ((6, 2, 1), 3), ((5, 2, 1), 2), ((6, 4, 2), 1)]
theorem tri631 : Tri 6 3 1 := ⟨by decide, by decide, by decide, by decide⟩
theorem tri632 : Tri 6 3 2 := ⟨by decide, by decide, by decide, by decide⟩
theorem tri621 : Tri 6 2 1 := ⟨by decide, by decide, by decide, by decide⟩
theorem tri521 : Tri 5 2 1 := ⟨by decide, by decide, by decide, by decide⟩
theorem tri642 : Tri 6 4 2 := ⟨by decide, by decide, by decide, by decide⟩
theorem tri633 : Tri 6 3 3 := ⟨by decide, by decide, by decide, by decide⟩
theorem tri111 : Tri 1 1 1 := ⟨by decide, by decide, by decide, by decide⟩
theorem L5_ok : ∀ p ∈ L5, Tri p.1.1 p.1.2.1 p.1.2.2 ∧ ∀ q, Few (DR p.1.1 p.1.2.1) (p.1.2.2 : Nat) q → q.length = p.2 := by
  intro p hp
  unfold L5 at hp
  simp only [List.mem_cons, List.not_mem_nil, or_false] at hp
  rcases hp with rfl | rfl | rfl | rfl | rfl
  · exact ⟨tri631, fun q e => few_two tri631 t631.1 t631.2 e⟩
  · exact ⟨tri632, fun q e => few_two tri632 t632.1 t632.2 e⟩
  · exact ⟨tri621, fun q e => few_621 tri621 e⟩
  · exact ⟨tri521, fun q e => few_two tri521 t521.1 t521.2 e⟩
  · exact ⟨tri642, fun q e => few_642 tri642 e⟩
section
variable {W n : Nat}
theorem tp3' {C : Cx} {env : Env} (p : Nat × Nat × Nat) : den C (.tup (.cons (.con (.int (p.1 : Int))) (.cons (.con (.int (p.2.1 : Int))) (.cons (.con (.int (p.2.2 : Int))) .nil)))) env = .ret (T3 p) := tp3 rfl rfl rfl
theorem s_fewest (hn : 8 ≤ n) (hW : 21 ^ 20 < W) : W0 (callP PR W n 20 [.cup]) fun t => t = .bl true := by
  obtain ⟨n, rfl⟩ : ∃ k, n = k + 1 := ⟨n - 1, by omega⟩
  refine w0_run (F := c__law_fewest_right) rfl rfl ?_
  show W0 (exec _ _ [some .cup, none, none, none, none, none, none, none]) _
  refine ws_asgTW (w0_eq (d_call2 (x := .cup) (y := .lst (LL.map T3)) rfl (d_lst (d_cons (tp3' (3, 2, 1)) (d_cons (tp3' (4, 2, 1)) (d_cons (tp3' (4, 2, 2)) (d_cons (tp3' (4, 3, 2)) (d_cons (tp3' (5, 2, 1)) (d_cons (tp3' (5, 3, 2)) (d_cons (tp3' (5, 4, 3)) (d_cons (tp3' (4, 1, 1)) (d_cons (tp3' (5, 1, 1)) (d_cons (tp3' (6, 5, 4)) (d_cons (tp3' (6, 1, 1)) rfl))))))))))) (by show 11 ≤ lim; decide)) rfl) (s_some (by omega) (.inl rfl) (by simp [LL]) (by show 11 < 1073741824; decide) fun x hx => ?_))
  obtain ⟨⟨b, s, h⟩, hp, rfl⟩ := List.mem_map.mp hx
  obtain ⟨p1, p2, p3, p4, p5⟩ := LL_ok _ hp
  have t : Tri b s h := ⟨p1, p2, p3, p4⟩
  have l10 : (DR b s).length ≤ 10 := p5
  obtain ⟨d20, d0, dn, dm⟩ := t.c1
  obtain ⟨q, eq, fq, sq⟩ := s_few (W := W) (n := n) (by omega) hW t
  obtain ⟨q1, q20⟩ := t.len fq
  refine ⟨[some .cup, some (.int (b : Int)), some (.int (s : Int)), some (.int (h : Int)), none, none, none, none], rfl, ?_⟩
  refine ws_par (ts := [lC (DR b s), tC q]) (env' := [some .cup, some (.int (b : Int)), some (.int (s : Int)), some (.int (h : Int)), some (lC (DR b s)), some (tC q), none, none]) (d_cons (d_call2 rfl rfl (s_draws (by omega) t)) (d_cons (d_call3 rfl rfl rfl eq) rfl)) rfl ?_
  have hsl : (subsG (DR b s)).length ≤ 1024 := by
    rw [subsG_len _ (DR b s) rfl]; exact Nat.le_trans (Nat.pow_le_pow_right (by decide) l10) (by decide)
  have hfl := List.length_filter_le (fun l : List D => decide (l.length < q.length)) (subsG (DR b s))
  refine ws_asg (t := .lst (((subsG (DR b s)).filter fun l => decide (l.length < q.length)).map tC)) (lc_evA tC (subsG (DR b s)) (fun l => [some .cup, some (.int (b : Int)), some (.int (s : Int)), some (.int (h : Int)), some (lC (DR b s)), some (tC q), none, some (tC l)]) (fun l => decide (l.length < q.length)) tC (t := .lst ((subsG (DR b s)).map tC)) (d_call1 (x := lC (DR b s)) rfl (s_subs tI (by omega) l10)) rfl (lim_le (by omega)) fun l hl => ⟨rfl, d_cmp (x := .int (l.length : Nat)) (y := .int (q.length : Nat)) (d_bi1 (x := tC l) rfl (lenC l)) (d_bi1 (x := tC q) rfl (lenC q)) ((clt_int _ _).trans (by congr 2; exact decide_eq_decide.mpr (by omega))), fun _ => rfl⟩) ?_
  show W0 (exec _ _ [some .cup, some (.int (b : Int)), some (.int (s : Int)), some (.int (h : Int)), some (lC (DR b s)), some (tC q), some (.lst (((subsG (DR b s)).filter fun l => decide (l.length < q.length)).map tC)), none]) _
  have hm : ∀ l ∈ (subsG (DR b s)).filter fun l => decide (l.length < q.length), (∀ x ∈ l, x ∈ DR b s) ∧ l.length ≤ 10 ∧ l.length < q.length := fun l hl => by
    obtain ⟨h1, h2⟩ := List.mem_filter.mp hl
    obtain ⟨h3, h4⟩ := subsG_sub _ (DR b s) rfl l h1
    exact ⟨h3, by omega, of_decide_eq_true h2⟩
  generalize (subsG (DR b s)).filter (fun l => decide (l.length < q.length)) = lots at hm hfl
  have key := lc_evA (C := ⟨callP PR W n, W⟩) (env := [some .cup, some (.int (b : Int)), some (.int (s : Int)), some (.int (h : Int)), some (lC (DR b s)), some (tC q), some (.lst (lots.map tC)), none]) (tgt := .n 7) (own := [7]) (it := .var 6) (c := .cmp .eq (.call 17 (.cons (.var 1) (.cons (.var 2) (.cons (.var 3) (.cons (.var 7) .nil))))) (.lst .nil)) (el := .var 7) tC lots (fun l => [some .cup, some (.int (b : Int)), some (.int (s : Int)), some (.int (h : Int)), some (lC (DR b s)), some (tC q), some (.lst (lots.map tC)), some (tC l)]) (fun _ => false) tC (t := .lst (lots.map tC)) rfl rfl (lim_le (by omega)) fun l hl => ⟨rfl, by
    obtain ⟨h1, h2, h3⟩ := hm l hl
    refine d_cmp (x := lC (MS (DR b s) h l)) (y := .lst []) (d_call4 (x := .int (b : Int)) (y := .int (s : Int)) (z := .int (h : Int)) (u := tC l) rfl rfl rfl rfl (s_lmissed (by omega) t (by omega) fun c hc => by have := (dm c (h1 c hc)).1; have := t.sb; have := t.b6; omega)) nill ((ceql (tC_plain _)).trans ?_)
    cases e : MS (DR b s) h l with
    | nil =>
      have := fq.le l ⟨h1, e⟩
      omega
    | cons _ _ => rfl, fun z => (by cases z)⟩
  rw [filter_none fun _ _ => rfl] at key
  exact ws_ret (d_cmp (x := .lst []) (y := .lst []) key nill rfl) rfl
theorem few_is {b s : Nat} (t : Tri b s s) {q : List D} (f : Few (DR b s) (s : Nat) q) (so : SortedK id q) : q = DR b s :=
  sorted_uniq so (sortK_sorted id _) f.nd t.c1.2.2.1 fun x => (few_all t f).mem_iff
theorem dr11 : DR 1 1 = [[0]] := by decide +kernel
theorem ms_nil (ds : List D) (h : Int) : MS ds h [] = ds := by unfold MS; simp
theorem eq5 : cmpM .eq (.lst [.int 2, .int 2, .int 3, .int 2, .int 1]) (.lst [.int 2, .int 2, .int 3, .int 2, .int 1]) = .ret (.bl true) := rfl
theorem law_gen (hn : 30 ≤ n) (hW : 21 ^ 20 < W) : W0 (Py.exec ⟨Py.callP PR W n, W⟩ lawS (setv (List.replicate 10 none) 1 .cup)) fun r => r = .rt (.bl true) := by
  refine ws_for (fun _ e => e.length = 10 ∧ getv e 1 = .ret .cup) (d_rng1 (n := 4) rfl (by decide)) rfl ⟨rfl, rfl⟩ ?_ ?_
  · rintro y r e ⟨hl, h1⟩
    refine w0_val ?_
    refine ws_noW (w0_notE (w0_eq (d_call1 (x := .cup) ((den_var 1).trans (by rw [gs_ne (by decide)]; exact h1)) rfl) ((s_right (by omega) hW).mono fun t ht => ⟨true, ht, rfl, ws_skip ⟨by simp [hl], by rw [gs_ne (by decide)]; exact h1⟩⟩)))
  · rintro e ⟨hl, h1⟩
    refine ws_noW (w0_notE (w0_eq (d_call1 (x := .cup) h1 rfl) ((s_fewest (by omega) hW).mono fun t ht => ⟨true, ht, rfl, ?_⟩)))
    refine ws_asg1 (k := 6) h1 rfl (by decide) (by decide) fun b b1 b6 => ?_
    have c1 : getv (setv e 3 (.int (b : Int))) 1 = .ret .cup := (gs_ne (by decide)).trans h1
    have c3 : getv (setv e 3 (.int (b : Int))) 3 = .ret (.int (b : Int)) := gs_eq (by omega)
    have cl : (setv e 3 (.int (b : Int))).length = 10 := by simp [hl]
    generalize setv e 3 (.int (b : Int)) = e at c1 c3 cl
    refine ws_asg1 (k := b) c1 c3 (by omega) (by omega) fun s s1 sb => ?_
    have c3 : getv (setv e 4 (.int (s : Int))) 3 = .ret (.int (b : Int)) := (gs_ne (by decide)).trans c3
    have c4 : getv (setv e 4 (.int (s : Int))) 4 = .ret (.int (s : Int)) := gs_eq (by omega)
    have cl : (setv e 4 (.int (s : Int))).length = 10 := by simp [cl]
    generalize setv e 4 (.int (s : Int)) = e at c3 c4 cl
    have t : Tri b s s := ⟨by omega, by omega, s1, Nat.le_refl _⟩
    have t1 : Tri b s 1 := ⟨by omega, by omega, Nat.le_refl _, s1⟩
    obtain ⟨q, eq, fq, sq⟩ := s_few (W := W) (n := n) (by omega) hW t
    obtain ⟨q', eq', fq', _⟩ := s_few (W := W) (n := n) (by omega) hW t1
    have hq := few_is t fq sq
    subst hq
    refine ws_asg (t := lC (DR b s)) (d_call2 c3 c4 (s_draws (by omega) t)) ?_
    have c5 : getv (setv e 5 (lC (DR b s))) 5 = .ret (lC (DR b s)) := gs_eq (by omega)
    have c3 : getv (setv e 5 (lC (DR b s))) 3 = .ret (.int (b : Int)) := (gs_ne (by decide)).trans c3
    have c4 : getv (setv e 5 (lC (DR b s))) 4 = .ret (.int (s : Int)) := (gs_ne (by decide)).trans c4
    have cl : (setv e 5 (lC (DR b s))).length = 10 := by simp [cl]
    generalize setv e 5 (lC (DR b s)) = e at c3 c4 c5 cl
    refine ws_no (d_or (x := false) (y := false) (d_cmp (x := tC (DR b s)) (y := tC (DR b s)) (d_call3 c3 c4 c4 eq) (d_bi1 (x := lC (DR b s)) c5 rfl) ((cne_tC _ _).trans (by rw [decide_eq_true rfl]; rfl))) fun _ => ?_) ?_
    · by_cases z : b < 2 * s
      · refine d_and (x := true) (y := false) (d_cmp (x := .int ((2 * s : Nat) : Int)) (y := .int (b : Int)) (d_bin (x := .int ((2 : Nat) : Int)) (y := .int (s : Int)) rfl c4 ?_) c3 ((cgt_int' _ _).trans (by congr 2; exact decide_eq_true (by omega)))) fun _ => d_cmp (x := .int (q'.length : Nat)) (y := .int 1) (d_bi1 (x := tC q') (d_call3 c3 c4 rfl eq') (lenC q')) rfl ((cne_int _ _).trans (by rw [few_one t1 z fq']; rfl))
        show (if okMul 2 (s : Int) = true then M.ret (T.int (2 * (s : Int))) else .stuck) = _
        rw [if_pos (by simp [okMul])]; congr 2
      · refine d_and (x := false) (y := true) (d_cmp (x := .int ((2 * s : Nat) : Int)) (y := .int (b : Int)) (d_bin (x := .int ((2 : Nat) : Int)) (y := .int (s : Int)) rfl c4 ?_) c3 ((cgt_int' _ _).trans (by congr 2; exact decide_eq_false (by omega)))) fun z => nomatch z
        show (if okMul 2 (s : Int) = true then M.ret (T.int (2 * (s : Int))) else .stuck) = _
        rw [if_pos (by simp [okMul])]; congr 2
    refine ws_asg (t := .lst [.int 2, .int 2, .int 3, .int 2, .int 1]) ?_ ?_
    · have := lc_mapA (C := ⟨callP PR W n, W⟩) (env := e) (tgt := .cons (.n 7) (.cons (.n 8) (.cons (.n 9) .nil))) (own := [7, 8, 9]) (it := .tup (.cons (.tup (.cons (.con (.int 6)) (.cons (.con (.int 3)) (.cons (.con (.int 1)) .nil)))) (.cons (.tup (.cons (.con (.int 6)) (.cons (.con (.int 3)) (.cons (.con (.int 2)) .nil)))) (.cons (.tup (.cons (.con (.int 6)) (.cons (.con (.int 2)) (.cons (.con (.int 1)) .nil)))) (.cons (.tup (.cons (.con (.int 5)) (.cons (.con (.int 2)) (.cons (.con (.int 1)) .nil)))) (.cons (.tup (.cons (.con (.int 6)) (.cons (.con (.int 4)) (.cons (.con (.int 2)) .nil)))) .nil)))))) (el := .bi .len (.cons (.call 10 (.cons (.var 7) (.cons (.var 8) (.cons (.var 9) .nil)))) .nil)) (fun p : (Nat × Nat × Nat) × Nat => T3 p.1) L5 (fun p => setv (setv (setv (wipe1 (wipe1 (wipe1 e 9) 8) 7) 7 (.int (p.1.1 : Int))) 8 (.int (p.1.2.1 : Int))) 9 (.int (p.1.2.2 : Int))) (fun p => .int (p.2 : Nat)) (t := .tup (L5.map fun p => T3 p.1)) (d_tup (d_cons (tp3' (6, 3, 1)) (d_cons (tp3' (6, 3, 2)) (d_cons (tp3' (6, 2, 1)) (d_cons (tp3' (5, 2, 1)) (d_cons (tp3' (6, 4, 2)) rfl))))) (by show 5 ≤ lim; decide)) rfl (by show 5 ≤ lim; decide) fun p hp => ⟨rfl, by
        obtain ⟨tp, hlen⟩ := L5_ok p hp
        obtain ⟨qq, eqq, fqq, _⟩ := s_few (W := W) (n := n) (by omega) hW tp
        have := hlen qq fqq
        rw [← this]
        refine d_bi1 (x := tC qq) (d_call3 (x := .int (p.1.1 : Int)) (y := .int (p.1.2.1 : Int)) (z := .int (p.1.2.2 : Int)) ?_ ?_ ?_ eqq) (lenC qq)
        · rw [den_var, gs_ne (by decide), gs_ne (by decide)]; exact gs_eq (by simp [cl])
        · rw [den_var, gs_ne (by decide)]; exact gs_eq (by simp [cl])
        · exact gs_eq (by simp [cl])⟩
      exact this
    have c6 : getv (setv e 6 (.lst [.int 2, .int 2, .int 3, .int 2, .int 1])) 6 = .ret (.lst [.int 2, .int 2, .int 3, .int 2, .int 1]) := gs_eq (by omega)
    generalize setv e 6 (.lst [.int 2, .int 2, .int 3, .int 2, .int 1]) = e at c6
    have cN : Cards 6 3 [] := ⟨fun _ z => (by cases z), List.Pairwise.nil, trivial, Nat.zero_le _⟩
    have m633 := s_missedC (W := W) (n := n) (by omega) tri633 cN
    rw [ms_nil] at m633
    obtain ⟨q1, eq1, fq1, sq1⟩ := s_few (W := W) (n := n) (by omega) hW tri111
    have hq1 := few_is tri111 fq1 sq1
    rw [dr11] at hq1
    subst hq1
    refine ws_ret (d_and (x := true) (y := true) (d_cmp (x := .lst [.int 2, .int 2, .int 3, .int 2, .int 1]) (y := .lst [.int 2, .int 2, .int 3, .int 2, .int 1]) c6 (d_lst rfl (by show 5 ≤ lim; decide)) eq5) fun _ => d_and (x := true) (y := true) (d_cmp (x := tC (DR 6 3)) (y := tC (DR 6 3)) (d_call4 (x := .int 6) (y := .int 3) (z := .int 3) (u := .tup []) rfl rfl rfl nilt m633) (d_bi1 (x := lC (DR 6 3)) (d_call2 (x := .int 6) (y := .int 3) rfl rfl (s_draws (by omega) tri633)) rfl) ((ceq_tC _ _).trans (by rw [decide_eq_true rfl]))) fun _ => d_cmp (x := tC [[0]]) (y := tC [[0]]) (d_call3 (x := .int 1) (y := .int 1) (z := .int 1) rfl rfl rfl eq1) (tp1 (tp1 rfl)) ((ceq_tC _ _).trans (by rw [decide_eq_true rfl]))) rfl
theorem law_w0 (hn : 30 ≤ n) : W0 (Py.exec ⟨Py.callP PR 1000000000000000000000000000 n, 1000000000000000000000000000⟩ lawS (setv (List.replicate 10 none) 1 .cup)) fun r => r = .rt (.bl true) := law_gen hn (by decide)
end
end Law

set_option maxRecDepth 100000
set_option maxHeartbeats 0
namespace Law
open PySem PySem.Spec L2 Snd
open PyProof.Rows hiding St
def top (i : Nat) : Stmt := PySem.Challenge.pw_fairground_k31_whole_cards_that_win.main.body.getD i (.Pass ⟨0, 0, 0, 0⟩)
def d_is_whole : He.DefD := ⟨("is_whole", none), "is_whole", "is_whole", defArgs (top 5), defBody (top 5), defScope (top 5), [], []⟩
def d_is_tuple_of : He.DefD := ⟨("is_tuple_of", none), "is_tuple_of", "is_tuple_of", defArgs (top 6), defBody (top 6), defScope (top 6), [], []⟩
def d_is_rising : He.DefD := ⟨("is_rising", none), "is_rising", "is_rising", defArgs (top 7), defBody (top 7), defScope (top 7), [], []⟩
def d_picks : He.DefD := ⟨("picks", none), "picks", "picks", defArgs (top 11), defBody (top 11), defScope (top 11), [], []⟩
def d_need_cards : He.DefD := ⟨("need_cards", none), "need_cards", "need_cards", defArgs (top 12), defBody (top 12), defScope (top 12), [], []⟩
def d_hits_of : He.DefD := ⟨("hits_of", none), "hits_of", "hits_of", defArgs (top 13), defBody (top 13), defScope (top 13), [], []⟩
def d_missed_in : He.DefD := ⟨("missed_in", none), "missed_in", "missed_in", defArgs (top 14), defBody (top 14), defScope (top 14), [], []⟩
def d_few_in : He.DefD := ⟨("few_in", none), "few_in", "few_in", defArgs (top 15), defBody (top 15), defScope (top 15), [], []⟩
def d_fits_cards : He.DefD := ⟨("fits_cards", none), "fits_cards", "fits_cards", defArgs (top 16), defBody (top 16), defScope (top 16), [], []⟩
def d_missed : He.DefD := ⟨("missed", none), "missed", "missed", defArgs (top 17), defBody (top 17), defScope (top 17), [], []⟩
def d_few_cards : He.DefD := ⟨("few_cards", none), "few_cards", "few_cards", defArgs (top 18), defBody (top 18), defScope (top 18), [], []⟩
def d_is_sure_set : He.DefD := ⟨("is_sure_set", none), "is_sure_set", "is_sure_set", defArgs (top 19), defBody (top 19), defScope (top 19), [], []⟩
def d__law_cup : He.DefD := ⟨("_law_cup", none), "_law_cup", "_law_cup", defArgs (top 21), defBody (top 21), defScope (top 21), [], []⟩
def d__law_roll : He.DefD := ⟨("_law_roll", none), "_law_roll", "_law_roll", defArgs (top 22), defBody (top 22), defScope (top 22), [], []⟩
def d__law_some : He.DefD := ⟨("_law_some", none), "_law_some", "_law_some", defArgs (top 23), defBody (top 23), defScope (top 23), [], []⟩
def d__law_same : He.DefD := ⟨("_law_same", none), "_law_same", "_law_same", defArgs (top 24), defBody (top 24), defScope (top 24), [], []⟩
def d__law_subsets : He.DefD := ⟨("_law_subsets", none), "_law_subsets", "_law_subsets", defArgs (top 25), defBody (top 25), defScope (top 25), [], []⟩
def d__law_draws : He.DefD := ⟨("_law_draws", none), "_law_draws", "_law_draws", defArgs (top 26), defBody (top 26), defScope (top 26), [], []⟩
def d__law_hits : He.DefD := ⟨("_law_hits", none), "_law_hits", "_law_hits", defArgs (top 27), defBody (top 27), defScope (top 27), [], []⟩
def d__law_missed : He.DefD := ⟨("_law_missed", none), "_law_missed", "_law_missed", defArgs (top 28), defBody (top 28), defScope (top 28), [], []⟩
def d__law_some_cards : He.DefD := ⟨("_law_some_cards", none), "_law_some_cards", "_law_some_cards", defArgs (top 29), defBody (top 29), defScope (top 29), [], []⟩
def d__law_right : He.DefD := ⟨("_law_right", none), "_law_right", "_law_right", defArgs (top 30), defBody (top 30), defScope (top 30), [], []⟩
def d__law_fewest_right : He.DefD := ⟨("_law_fewest_right", none), "_law_fewest_right", "_law_fewest_right", defArgs (top 31), defBody (top 31), defScope (top 31), [], []⟩
def d_law : He.DefD := ⟨("law", none), "law", "law", defArgs (top 32), defBody (top 32), defScope (top 32), [], []⟩
def fn : List He.DefD := [d_is_whole, d_is_tuple_of, d_is_rising, d_picks, d_need_cards, d_hits_of, d_missed_in, d_few_in, d_fits_cards, d_missed, d_few_cards, d_is_sure_set, d__law_cup, d__law_roll, d__law_some, d__law_same, d__law_subsets, d__law_draws, d__law_hits, d__law_missed, d__law_some_cards, d__law_right, d__law_fewest_right, d_law]
def fa : List He.Fa := [.glo "is_whole", .glo "is_tuple_of", .glo "is_rising", .glo "picks", .glo "need_cards", .glo "hits_of", .glo "missed_in", .glo "few_in", .glo "fits_cards", .glo "missed", .glo "few_cards", .glo "is_sure_set", .glo "_law_cup", .glo "_law_roll", .glo "_law_some", .glo "_law_same", .glo "_law_subsets", .glo "_law_draws", .glo "_law_hits", .glo "_law_missed", .glo "_law_some_cards", .glo "_law_right", .glo "_law_fewest_right", .glo "law", .free "ValueError", .free "abs", .free "all", .free "any", .free "bool", .free "int", .free "isinstance", .free "len", .free "list", .free "range", .free "sorted", .free "str", .free "tuple", .free "zip", .int "BALLS" 6, .int "CARDS" 20, .glo "FairError", .glo "InvalidNumber", .glo "InvalidDrum"]
def loose : List Str := ["FairError", "InvalidNumber", "InvalidDrum", "is_whole", "is_tuple_of", "is_rising", "BALLS", "CARDS", "picks", "need_cards", "hits_of", "missed_in", "few_in", "fits_cards", "missed", "few_cards", "is_sure_set", "_law_cup", "_law_roll", "_law_some", "_law_same", "_law_subsets", "_law_draws", "_law_hits", "_law_missed", "_law_some_cards", "_law_right", "_law_fewest_right"]
abbrev R : PySem.W.OpenRow := PySem.W.OpenLaw.row PySem.Challenge.rw_fairground_k31_whole_cards_that_win
abbrev hk : PySem.W.Hook := He.hookD 4 fa fn
def ob (s : PySem.W.SharedT) : He.AlD := He.obsDG 4 fa fn (HandSHeadRun.getT s)
theorem ob_eq (s : PySem.W.SharedT) : ob s = hk.obs s.abs := He.obsDG_eq (HandSHeadRun.getT_eq s)
theorem run (w : World) : HandSHeadRun.RunEq R (PySem.W.view R.prog [32]) hk ob 2000 loose w := by
  intro os
  kernel_rfl
def cnames : List Str := ["is_whole", "is_tuple_of", "is_rising", "picks", "need_cards", "hits_of", "missed_in", "few_in", "fits_cards", "missed", "few_cards", "is_sure_set", "_law_some", "_law_same", "_law_subsets", "_law_draws", "_law_hits", "_law_missed", "_law_some_cards", "_law_right", "_law_fewest_right"]
def gx : Gx := ⟨[], fun i => cnames[i]?, "_law_roll", fun x => ([("BALLS", 6), ("CARDS", 20)] : List (Str × Int)).lookup x, fun x => (["ValueError", "abs", "all", "any", "bool", "int", "isinstance", "len", "list", "range", "sorted", "str", "tuple", "zip"] : List Str).contains x⟩
theorem fsc {N P : List Str} {sc : Scope} (h : ((match sc.kind with | .function => true | _ => false) && !sc.isCoroutine && !sc.isGenerator && decide N.Nodup && decide (N.take P.length = P) && (P.all fun x => locB sc x) && sc.names.all fun y => match y.2 with | .free => false | _ => true) = true) : FnScope N P sc := fscope_by h
theorem ok_is_whole : DefOk gx c_is_whole ["value", "low", "high"] ["value", "low", "high"] (defBody (top 5)) (defScope (top 5)) := ⟨fsc (by decide +kernel), rfl, rfl, by decide +kernel, by decide +kernel⟩
theorem ok_is_tuple_of : DefOk gx c_is_tuple_of ["value", "low", "high"] ["value", "low", "high"] (defBody (top 6)) (defScope (top 6)) := ⟨fsc (by decide +kernel), rfl, rfl, by decide +kernel, by decide +kernel⟩
theorem ok_is_rising : DefOk gx c_is_rising ["value", "one", "other"] ["value"] (defBody (top 7)) (defScope (top 7)) := ⟨fsc (by decide +kernel), rfl, rfl, by decide +kernel, by decide +kernel⟩
theorem ok_picks : DefOk gx c_picks ["balls", "size", "found", "ball", "one"] ["balls", "size"] (defBody (top 11)) (defScope (top 11)) := ⟨fsc (by decide +kernel), rfl, rfl, by decide +kernel, by decide +kernel⟩
theorem ok_need_cards : DefOk gx c_need_cards ["balls", "size", "hits"] ["balls", "size", "hits"] (defBody (top 12)) (defScope (top 12)) := ⟨fsc (by decide +kernel), rfl, rfl, by decide +kernel, by decide +kernel⟩
theorem ok_hits_of : DefOk gx c_hits_of ["card", "draw", "ball"] ["card", "draw"] (defBody (top 13)) (defScope (top 13)) := ⟨fsc (by decide +kernel), rfl, rfl, by decide +kernel, by decide +kernel⟩
theorem ok_missed_in : DefOk gx c_missed_in ["draws", "hits", "cards", "draw", "card"] ["draws", "hits", "cards"] (defBody (top 14)) (defScope (top 14)) := ⟨fsc (by decide +kernel), rfl, rfl, by decide +kernel, by decide +kernel⟩
theorem ok_few_in : DefOk gx c_few_in ["draws", "hits", "limit", "line", "cards", "left", "card"] ["draws", "hits"] (defBody (top 15)) (defScope (top 15)) := ⟨fsc (by decide +kernel), rfl, rfl, by decide +kernel, by decide +kernel⟩
theorem ok_fits_cards : DefOk gx c_fits_cards ["balls", "size", "value", "card", "ball"] ["balls", "size", "value"] (defBody (top 16)) (defScope (top 16)) := ⟨fsc (by decide +kernel), rfl, rfl, by decide +kernel, by decide +kernel⟩
theorem ok_missed : DefOk gx c_missed ["balls", "size", "hits", "cards"] ["balls", "size", "hits", "cards"] (defBody (top 17)) (defScope (top 17)) := ⟨fsc (by decide +kernel), rfl, rfl, by decide +kernel, by decide +kernel⟩
theorem ok_few_cards : DefOk gx c_few_cards ["balls", "size", "hits"] ["balls", "size", "hits"] (defBody (top 18)) (defScope (top 18)) := ⟨fsc (by decide +kernel), rfl, rfl, by decide +kernel, by decide +kernel⟩
theorem ok_is_sure_set : DefOk gx c_is_sure_set ["balls", "size", "hits", "value"] ["balls", "size", "hits", "value"] (defBody (top 19)) (defScope (top 19)) := ⟨fsc (by decide +kernel), rfl, rfl, by decide +kernel, by decide +kernel⟩
theorem ok__law_some : DefOk gx c__law_some ["cup", "things"] ["cup", "things"] (defBody (top 23)) (defScope (top 23)) := ⟨fsc (by decide +kernel), rfl, rfl, by decide +kernel, by decide +kernel⟩
theorem ok__law_same : DefOk gx c__law_same ["told", "due", "at"] ["told", "due"] (defBody (top 24)) (defScope (top 24)) := ⟨fsc (by decide +kernel), rfl, rfl, by decide +kernel, by decide +kernel⟩
theorem ok__law_subsets : DefOk gx c__law_subsets ["things", "found", "thing", "one"] ["things"] (defBody (top 25)) (defScope (top 25)) := ⟨fsc (by decide +kernel), rfl, rfl, by decide +kernel, by decide +kernel⟩
theorem ok__law_draws : DefOk gx c__law_draws ["balls", "size", "one"] ["balls", "size"] (defBody (top 26)) (defScope (top 26)) := ⟨fsc (by decide +kernel), rfl, rfl, by decide +kernel, by decide +kernel⟩
theorem ok__law_hits : DefOk gx c__law_hits ["card", "draw", "ball"] ["card", "draw"] (defBody (top 27)) (defScope (top 27)) := ⟨fsc (by decide +kernel), rfl, rfl, by decide +kernel, by decide +kernel⟩
theorem ok__law_missed : DefOk gx c__law_missed ["balls", "size", "hits", "cards", "draw", "card"] ["balls", "size", "hits", "cards"] (defBody (top 28)) (defScope (top 28)) := ⟨fsc (by decide +kernel), rfl, rfl, by decide +kernel, by decide +kernel⟩
theorem ok__law_some_cards : DefOk gx c__law_some_cards ["cup", "draws", "most", "found", "turn"] ["cup", "draws", "most"] (defBody (top 29)) (defScope (top 29)) := ⟨fsc (by decide +kernel), rfl, rfl, by decide +kernel, by decide +kernel⟩
theorem ok__law_right : DefOk gx c__law_right ["cup", "balls", "size", "hits", "draws", "cards", "due", "few", "card", "one", "names", "other", "ball", "draw", "odds", "odd"] ["cup"] (defBody (top 30)) (defScope (top 30)) := ⟨fsc (by decide +kernel), rfl, rfl, by decide +kernel, by decide +kernel⟩
theorem ok__law_fewest_right : DefOk gx c__law_fewest_right ["cup", "balls", "size", "hits", "draws", "few", "lots", "lot"] ["cup"] (defBody (top 31)) (defScope (top 31)) := ⟨fsc (by decide +kernel), rfl, rfl, by decide +kernel, by decide +kernel⟩
section
variable {P : Program} {w : World} {K : PySem.W.Frag} {h : Heap} {mg : Str → Option Value} (X : K.In h) (G : h.Ns mainGlobals mg) (c : He.SaysD fa fn K)
include X G c
theorem at_is_whole : DefAt P w K mg gx c_is_whole "is_whole" := by
  obtain ⟨fd, F⟩ := c.def_ 0 (d := d_is_whole) rfl
  exact ⟨_, _, _, _, _, fd, _, _, F, ok_is_whole, He.glo_ok X G (c.fact 0 (f := .glo "is_whole") rfl), FunD.bindsN F fun _ _ _ _ _ _ us hl => match us, hl with | [_, _, _], _ => rfl⟩
theorem at_is_tuple_of : DefAt P w K mg gx c_is_tuple_of "is_tuple_of" := by
  obtain ⟨fd, F⟩ := c.def_ 1 (d := d_is_tuple_of) rfl
  exact ⟨_, _, _, _, _, fd, _, _, F, ok_is_tuple_of, He.glo_ok X G (c.fact 1 (f := .glo "is_tuple_of") rfl), FunD.bindsN F fun _ _ _ _ _ _ us hl => match us, hl with | [_, _, _], _ => rfl⟩
theorem at_is_rising : DefAt P w K mg gx c_is_rising "is_rising" := by
  obtain ⟨fd, F⟩ := c.def_ 2 (d := d_is_rising) rfl
  exact ⟨_, _, _, _, _, fd, _, _, F, ok_is_rising, He.glo_ok X G (c.fact 2 (f := .glo "is_rising") rfl), FunD.bindsN F fun _ _ _ _ _ _ us hl => match us, hl with | [_], _ => rfl⟩
theorem at_picks : DefAt P w K mg gx c_picks "picks" := by
  obtain ⟨fd, F⟩ := c.def_ 3 (d := d_picks) rfl
  exact ⟨_, _, _, _, _, fd, _, _, F, ok_picks, He.glo_ok X G (c.fact 3 (f := .glo "picks") rfl), FunD.bindsN F fun _ _ _ _ _ _ us hl => match us, hl with | [_, _], _ => rfl⟩
theorem at_need_cards : DefAt P w K mg gx c_need_cards "need_cards" := by
  obtain ⟨fd, F⟩ := c.def_ 4 (d := d_need_cards) rfl
  exact ⟨_, _, _, _, _, fd, _, _, F, ok_need_cards, He.glo_ok X G (c.fact 4 (f := .glo "need_cards") rfl), FunD.bindsN F fun _ _ _ _ _ _ us hl => match us, hl with | [_, _, _], _ => rfl⟩
theorem at_hits_of : DefAt P w K mg gx c_hits_of "hits_of" := by
  obtain ⟨fd, F⟩ := c.def_ 5 (d := d_hits_of) rfl
  exact ⟨_, _, _, _, _, fd, _, _, F, ok_hits_of, He.glo_ok X G (c.fact 5 (f := .glo "hits_of") rfl), FunD.bindsN F fun _ _ _ _ _ _ us hl => match us, hl with | [_, _], _ => rfl⟩
theorem at_missed_in : DefAt P w K mg gx c_missed_in "missed_in" := by
  obtain ⟨fd, F⟩ := c.def_ 6 (d := d_missed_in) rfl
  exact ⟨_, _, _, _, _, fd, _, _, F, ok_missed_in, He.glo_ok X G (c.fact 6 (f := .glo "missed_in") rfl), FunD.bindsN F fun _ _ _ _ _ _ us hl => match us, hl with | [_, _, _], _ => rfl⟩
theorem at_few_in : DefAt P w K mg gx c_few_in "few_in" := by
  obtain ⟨fd, F⟩ := c.def_ 7 (d := d_few_in) rfl
  exact ⟨_, _, _, _, _, fd, _, _, F, ok_few_in, He.glo_ok X G (c.fact 7 (f := .glo "few_in") rfl), FunD.bindsN F fun _ _ _ _ _ _ us hl => match us, hl with | [_, _], _ => rfl⟩
theorem at_fits_cards : DefAt P w K mg gx c_fits_cards "fits_cards" := by
  obtain ⟨fd, F⟩ := c.def_ 8 (d := d_fits_cards) rfl
  exact ⟨_, _, _, _, _, fd, _, _, F, ok_fits_cards, He.glo_ok X G (c.fact 8 (f := .glo "fits_cards") rfl), FunD.bindsN F fun _ _ _ _ _ _ us hl => match us, hl with | [_, _, _], _ => rfl⟩
theorem at_missed : DefAt P w K mg gx c_missed "missed" := by
  obtain ⟨fd, F⟩ := c.def_ 9 (d := d_missed) rfl
  exact ⟨_, _, _, _, _, fd, _, _, F, ok_missed, He.glo_ok X G (c.fact 9 (f := .glo "missed") rfl), FunD.bindsN F fun _ _ _ _ _ _ us hl => match us, hl with | [_, _, _, _], _ => rfl⟩
theorem at_few_cards : DefAt P w K mg gx c_few_cards "few_cards" := by
  obtain ⟨fd, F⟩ := c.def_ 10 (d := d_few_cards) rfl
  exact ⟨_, _, _, _, _, fd, _, _, F, ok_few_cards, He.glo_ok X G (c.fact 10 (f := .glo "few_cards") rfl), FunD.bindsN F fun _ _ _ _ _ _ us hl => match us, hl with | [_, _, _], _ => rfl⟩
theorem at_is_sure_set : DefAt P w K mg gx c_is_sure_set "is_sure_set" := by
  obtain ⟨fd, F⟩ := c.def_ 11 (d := d_is_sure_set) rfl
  exact ⟨_, _, _, _, _, fd, _, _, F, ok_is_sure_set, He.glo_ok X G (c.fact 11 (f := .glo "is_sure_set") rfl), FunD.bindsN F fun _ _ _ _ _ _ us hl => match us, hl with | [_, _, _, _], _ => rfl⟩
theorem at__law_some : DefAt P w K mg gx c__law_some "_law_some" := by
  obtain ⟨fd, F⟩ := c.def_ 14 (d := d__law_some) rfl
  exact ⟨_, _, _, _, _, fd, _, _, F, ok__law_some, He.glo_ok X G (c.fact 14 (f := .glo "_law_some") rfl), FunD.bindsN F fun _ _ _ _ _ _ us hl => match us, hl with | [_, _], _ => rfl⟩
theorem at__law_same : DefAt P w K mg gx c__law_same "_law_same" := by
  obtain ⟨fd, F⟩ := c.def_ 15 (d := d__law_same) rfl
  exact ⟨_, _, _, _, _, fd, _, _, F, ok__law_same, He.glo_ok X G (c.fact 15 (f := .glo "_law_same") rfl), FunD.bindsN F fun _ _ _ _ _ _ us hl => match us, hl with | [_, _], _ => rfl⟩
theorem at__law_subsets : DefAt P w K mg gx c__law_subsets "_law_subsets" := by
  obtain ⟨fd, F⟩ := c.def_ 16 (d := d__law_subsets) rfl
  exact ⟨_, _, _, _, _, fd, _, _, F, ok__law_subsets, He.glo_ok X G (c.fact 16 (f := .glo "_law_subsets") rfl), FunD.bindsN F fun _ _ _ _ _ _ us hl => match us, hl with | [_], _ => rfl⟩
theorem at__law_draws : DefAt P w K mg gx c__law_draws "_law_draws" := by
  obtain ⟨fd, F⟩ := c.def_ 17 (d := d__law_draws) rfl
  exact ⟨_, _, _, _, _, fd, _, _, F, ok__law_draws, He.glo_ok X G (c.fact 17 (f := .glo "_law_draws") rfl), FunD.bindsN F fun _ _ _ _ _ _ us hl => match us, hl with | [_, _], _ => rfl⟩
theorem at__law_hits : DefAt P w K mg gx c__law_hits "_law_hits" := by
  obtain ⟨fd, F⟩ := c.def_ 18 (d := d__law_hits) rfl
  exact ⟨_, _, _, _, _, fd, _, _, F, ok__law_hits, He.glo_ok X G (c.fact 18 (f := .glo "_law_hits") rfl), FunD.bindsN F fun _ _ _ _ _ _ us hl => match us, hl with | [_, _], _ => rfl⟩
theorem at__law_missed : DefAt P w K mg gx c__law_missed "_law_missed" := by
  obtain ⟨fd, F⟩ := c.def_ 19 (d := d__law_missed) rfl
  exact ⟨_, _, _, _, _, fd, _, _, F, ok__law_missed, He.glo_ok X G (c.fact 19 (f := .glo "_law_missed") rfl), FunD.bindsN F fun _ _ _ _ _ _ us hl => match us, hl with | [_, _, _, _], _ => rfl⟩
theorem at__law_some_cards : DefAt P w K mg gx c__law_some_cards "_law_some_cards" := by
  obtain ⟨fd, F⟩ := c.def_ 20 (d := d__law_some_cards) rfl
  exact ⟨_, _, _, _, _, fd, _, _, F, ok__law_some_cards, He.glo_ok X G (c.fact 20 (f := .glo "_law_some_cards") rfl), FunD.bindsN F fun _ _ _ _ _ _ us hl => match us, hl with | [_, _, _], _ => rfl⟩
theorem at__law_right : DefAt P w K mg gx c__law_right "_law_right" := by
  obtain ⟨fd, F⟩ := c.def_ 21 (d := d__law_right) rfl
  exact ⟨_, _, _, _, _, fd, _, _, F, ok__law_right, He.glo_ok X G (c.fact 21 (f := .glo "_law_right") rfl), FunD.bindsN F fun _ _ _ _ _ _ us hl => match us, hl with | [_], _ => rfl⟩
theorem at__law_fewest_right : DefAt P w K mg gx c__law_fewest_right "_law_fewest_right" := by
  obtain ⟨fd, F⟩ := c.def_ 22 (d := d__law_fewest_right) rfl
  exact ⟨_, _, _, _, _, fd, _, _, F, ok__law_fewest_right, He.glo_ok X G (c.fact 22 (f := .glo "_law_fewest_right") rfl), FunD.bindsN F fun _ _ _ _ _ _ us hl => match us, hl with | [_], _ => rfl⟩
theorem free_all (x : Str) (hx : gx.free x = true) : mg x = none := by
  have hx : (["ValueError", "abs", "all", "any", "bool", "int", "isinstance", "len", "list", "range", "sorted", "str", "tuple", "zip"] : List Str).contains x = true := hx
  simp only [List.contains_iff_mem, List.mem_cons, List.not_mem_nil, or_false] at hx
  rcases hx with rfl | rfl | rfl | rfl | rfl | rfl | rfl | rfl | rfl | rfl | rfl | rfl | rfl | rfl
  · exact He.free_ok X G (c.fact 24 (f := .free "ValueError") rfl)
  · exact He.free_ok X G (c.fact 25 (f := .free "abs") rfl)
  · exact He.free_ok X G (c.fact 26 (f := .free "all") rfl)
  · exact He.free_ok X G (c.fact 27 (f := .free "any") rfl)
  · exact He.free_ok X G (c.fact 28 (f := .free "bool") rfl)
  · exact He.free_ok X G (c.fact 29 (f := .free "int") rfl)
  · exact He.free_ok X G (c.fact 30 (f := .free "isinstance") rfl)
  · exact He.free_ok X G (c.fact 31 (f := .free "len") rfl)
  · exact He.free_ok X G (c.fact 32 (f := .free "list") rfl)
  · exact He.free_ok X G (c.fact 33 (f := .free "range") rfl)
  · exact He.free_ok X G (c.fact 34 (f := .free "sorted") rfl)
  · exact He.free_ok X G (c.fact 35 (f := .free "str") rfl)
  · exact He.free_ok X G (c.fact 36 (f := .free "tuple") rfl)
  · exact He.free_ok X G (c.fact 37 (f := .free "zip") rfl)
theorem const_all (x : Str) (i : Int) (hx : gx.consts x = some i) : ∃ t, mg x = some (.int i t) := by
  have hx := mem_of_lookup' (show ([("BALLS", 6), ("CARDS", 20)] : List (Str × Int)).lookup x = some i from hx)
  simp only [List.mem_cons, List.not_mem_nil, or_false, Prod.mk.injEq] at hx
  rcases hx with ⟨rfl, rfl⟩ | ⟨rfl, rfl⟩
  · exact He.int_ok X G (c.fact 38 (f := .int "BALLS" 6) rfl)
  · exact He.int_ok X G (c.fact 39 (f := .int "CARDS" 20) rfl)
theorem defs_all (f : Nat) (x : Str) (hx : gx.defs f = some x) : ∃ fn, PR f = some fn ∧ DefAt P w K mg gx fn x := by
  have hx : cnames[f]? = some x := hx
  match f, hx with
  | 0, hx => cases hx; exact ⟨_, rfl, at_is_whole X G c⟩
  | 1, hx => cases hx; exact ⟨_, rfl, at_is_tuple_of X G c⟩
  | 2, hx => cases hx; exact ⟨_, rfl, at_is_rising X G c⟩
  | 3, hx => cases hx; exact ⟨_, rfl, at_picks X G c⟩
  | 4, hx => cases hx; exact ⟨_, rfl, at_need_cards X G c⟩
  | 5, hx => cases hx; exact ⟨_, rfl, at_hits_of X G c⟩
  | 6, hx => cases hx; exact ⟨_, rfl, at_missed_in X G c⟩
  | 7, hx => cases hx; exact ⟨_, rfl, at_few_in X G c⟩
  | 8, hx => cases hx; exact ⟨_, rfl, at_fits_cards X G c⟩
  | 9, hx => cases hx; exact ⟨_, rfl, at_missed X G c⟩
  | 10, hx => cases hx; exact ⟨_, rfl, at_few_cards X G c⟩
  | 11, hx => cases hx; exact ⟨_, rfl, at_is_sure_set X G c⟩
  | 12, hx => cases hx; exact ⟨_, rfl, at__law_some X G c⟩
  | 13, hx => cases hx; exact ⟨_, rfl, at__law_same X G c⟩
  | 14, hx => cases hx; exact ⟨_, rfl, at__law_subsets X G c⟩
  | 15, hx => cases hx; exact ⟨_, rfl, at__law_draws X G c⟩
  | 16, hx => cases hx; exact ⟨_, rfl, at__law_hits X G c⟩
  | 17, hx => cases hx; exact ⟨_, rfl, at__law_missed X G c⟩
  | 18, hx => cases hx; exact ⟨_, rfl, at__law_some_cards X G c⟩
  | 19, hx => cases hx; exact ⟨_, rfl, at__law_right X G c⟩
  | 20, hx => cases hx; exact ⟨_, rfl, at__law_fewest_right X G c⟩
  | _ + 21, hx => cases hx
def rollK : RollK := ⟨31139, 8111, 2147483399, 367, 2147483563, 971⟩
theorem roll_at (c' : Addr) {base : Heap} : ∃ (fa : Addr) (fd : FuncData) (ps : List Str), mg gx.roll = some (.ref fa) ∧ PySem.W.keepIn K (.ref fa) = true ∧ Binds K fd ps [] ∧ FnOk P w K mg base CX0 2 fa fd ps (spRoll c') := by
  obtain ⟨fd, F⟩ := c.def_ 13 (d := d__law_roll) rfl
  exact ⟨_, fd, ["cup", "many"], He.glo_ok X G (c.fact 13 (f := .glo "_law_roll") rfl), F.kp, FunD.bindsN F fun _ _ _ _ _ _ us hl => match us, hl with | [_, _], _ => rfl, roll_sound (g := gx) (free_all X G c) F (N := ["cup", "many", "found", "deep"]) (fsc (by decide +kernel)) rfl rfl rollK (by decide +kernel) (by decide +kernel)⟩
def cupK : CupK := ⟨193, 449, 4219, 2077503341, 277⟩
theorem cup_at {base : Heap} : ∃ (fa : Addr) (fd : FuncData) (ps : List Str), mg "_law_cup" = some (.ref fa) ∧ PySem.W.keepIn K (.ref fa) = true ∧ Binds K fd ps [] ∧ FnOk P w K mg base CX0 2 fa fd ps (spCup K) := by
  obtain ⟨fd, F⟩ := c.def_ 12 (d := d__law_cup) rfl
  exact ⟨_, fd, ["script"], He.glo_ok X G (c.fact 12 (f := .glo "_law_cup") rfl), F.kp, FunD.bindsN F fun _ _ _ _ _ _ us hl => match us, hl with | [_], _ => rfl, cup_sound (g := gx) (free_all X G c) F (N := ["script", "cell"]) (fsc (by decide +kernel)) rfl rfl cupK (by decide +kernel) (by decide +kernel)⟩
theorem facts_law {W n : Nat} (hlaw : WP (Py.exec ⟨Py.callP PR W n, W⟩ lawS (lawEnv lawN lawC)) (fun r => r = .rt (.bl true))) {f : Addr} (hfa : mg ("law" : Str) = some (.ref f)) :
    ∃ fd : FuncData, (∀ (s : Shared) (v : Value), BindsTo s fd ⟨[v], []⟩ [("script", v)]) ∧ ∀ base : Heap, K.In base → base.Ns mainGlobals mg → FnOk P w K mg base CX0 (n + 3) f fd ["script"] (spLaw K) := by
  obtain ⟨fd, F⟩ := c.def_ 23 (d := d_law) rfl
  have e := hfa.symm.trans (He.glo_ok X G (c.fact 23 (f := .glo "law") rfl))
  cases e
  have b := FunD.bindsA (ps := ["script"]) F fun _ _ _ _ _ _ us hl => match us, hl with | [_], _ => rfl
  refine ⟨fd, fun s v => b s [v] rfl, fun base _ _ => ?_⟩
  have fs : ∀ c', Facts ⟨Py.callP PR W n, W⟩ P w K mg base gx (n + 2) c' := fun c' => facts_all (PR := PR) (W := W) (defs_all X G c) (roll_at X G c c') (const_all X G c) (free_all X G c) n
  obtain ⟨ca, cd, cps, m1, m2, m3, m4⟩ := cup_at (P := P) (w := w) X G c (base := base)
  exact law_sound fs F (N := ["script", "cup", "turn", "balls", "size", "draws", "told", "one", "two", "three"]) (fsc (by decide +kernel)) rfl (s := lawS) (cup := "_law_cup") (ic := lawC) (by decide) (by decide) ⟨ca, cd, cps, m1, m2, m3, m4.mono (by omega)⟩ (by decide +kernel) (by decide +kernel) hlaw
end
theorem law_plain : WP (Py.exec ⟨Py.callP PR 1000000000000000000000000000 40, 1000000000000000000000000000⟩ lawS (lawEnv lawN lawC)) (fun r => r = .rt (.bl true)) := (law_w0 (n := 40) (by decide)).ok
end Law
open PySem PySem.W PySem.Calls PyProof.Rows
theorem PySem.Challenge.cw_fairground_k31_whole_cards_that_win_holds : PySem.Challenge.rw_fairground_k31_whole_cards_that_win.Holds := by
  w_on; o_law
  refine HandSHeadRun.head_any (r := OpenLaw.row PySem.Challenge.rw_fairground_k31_whole_cards_that_win) (q := view (OpenLaw.row PySem.Challenge.rw_fairground_k31_whole_cards_that_win).prog [32]) (H := Law.hk) (ob := Law.ob) (M := 2000) (loose := Law.loose) (d := HandSHeadRun.topDef (OpenLaw.row PySem.Challenge.rw_fairground_k31_whole_cards_that_win).prog 32) (kwd := []) Law.ob_eq
    (by kernel_rfl) (fun s => by kernel_rfl) Law.run (by kernel_rfl) (by kernel_rfl) (by kernel_rfl) (by rfl) (by first | assumption | decide +kernel) (by decide +kernel) ⟨rfl, rfl, rfl, rfl, rfl, by decide +kernel⟩ ?hw ?hc
  case hw => w_witness2
  case hc =>
    refine L2.walk_ofE (l := PySem.Challenge.rw_fairground_k31_whole_cards_that_win) (n := 63) (k := 40 + 3) (x := "script") (CX := L2.CX0) rfl (by decide) (by kernel_rfl) ⟨rfl, by decide, by decide⟩ ?F (fun _ _ _ _ z => z)
    intro w mg fa h Y G hmg0
    obtain ⟨K, KX, c⟩ := Y
    have hmg : mg ("law" : PySem.Str) = some (.ref fa) := by
      have e : (HandSHeadRun.topDef (OpenLaw.row PySem.Challenge.rw_fairground_k31_whole_cards_that_win).prog 32).name = ("law" : PySem.Str) := by kernel_rfl
      rw [← e]
      exact hmg0
    obtain ⟨fd, hb, hF⟩ := Law.facts_law (P := (PySem.Challenge.rw_fairground_k31_whole_cards_that_win).prog) (w := w) KX G c Law.law_plain hmg
    exact ⟨K, fd, Snd.spLaw K, KX, hb, fun H a ns hl _ hS => ⟨a, ns, rfl, hl, hS, fun _ => rfl⟩, hF⟩
