import PyProof.Rows.All
import PySem.PyData
import PySem.Eval
import HandS.Comp
import Wide.All
import OpenK.AllK
import Wide.FinOn
import HandS.ForMost
import HandS.Exc
import HandS.WordsExc
import HandS.Defaults
import HandS.TupAny
import HandS.Style
import KE.KeyNested
import KE.KDictKeyed
import PyProof.ListMulRoad
import PyProof.FactsAll.tuple_2
import HandS.Base
import HandS.Call
import HandS.List
import HandS.TupMul
import HandS.Dict
import KE.KItemsList
import HandS.Iter
import HandS.Conv
import HandS.DictTup
import HandS.ListItems
import PyProof.DictCompW
import PyProof.DictTable
import HandS.DictComp
import KE.KDictDisplayH
import KE.DataEq
import KE.DataCmp
import KE.SortData
import PyProof.EnumMake
import HandS.Zip0
import PyProof.ZipIter
import KE.GoesEnumKw
import HandS.Zip
import HandS.SortKw
import HandS.Strs
import HandS.MakeKw
import HandS.MakeKwOnly
import HandS.Codes
import HandS.HeadWalk
import HandS.IsInst
import HandS.Head0
import HandS.Head1
import HandS.Head2
import HandS.HeadEnd
import HandS.HeadHook1
import HandS.HeadHook2
import HandS.Ends
import PySem.Challenge.RW_swapframes_k41_ledgers_by_hand
set_option Elab.async false
set_option linter.all false
set_option maxRecDepth 100000
/-! Ev1: a small evaluator of the part of Python that the program uses: values, heap, code, evaluation. -/
namespace Ev
open PySem

/-- a value: immutable data is told whole (fro: a list that nobody changes), what can change is told by its number -/
inductive PV where
  | non | bl (b : Bool) | int (i : Int) | str (x : Str) | tup (xs : List PV) | fro (xs : List PV) | ref (n : Nat)

inductive T (α : Type) where
  | leaf
  | node (o : Option α) (l r : T α)
/-- a dict: are its keys tuples; how many; the keys, the last first; the entries by their keys' hash -/
structure Dd where
  tk : Bool
  n : Nat
  ks : List PV
  t : T (List (PV × PV))
/-- what can change -/
inductive Ob where
  | lst (xs : List PV)
  | dct (d : Dd)
  | dlk (d : Dd)
  | ins (c : Nat) (fs : List (Nat × PV))

/-- at a number: the node itself, then by the bits -/
noncomputable def T.get {α : Type} (t : T α) : Nat → Option α :=
  @T.rec α (fun _ => Nat → Option α) (fun _ => none)
    (fun o _ _ gl gr n => @Nat.rec (fun _ => Option α) o (fun k _ => @Nat.rec (fun _ => Option α) (gl (Nat.div k 2)) (fun _ _ => gr (Nat.div k 2)) (Nat.mod k 2)) n) t
noncomputable def T.put {α : Type} (d : Nat) : T α → Nat → α → T α :=
  @Nat.rec (fun _ => T α → Nat → α → T α) (fun t _ _ => t)
    (fun _ ih t => @T.rec α (fun _ => Nat → α → T α)
      (fun n v => @Nat.rec (fun _ => T α) (.node (some v) .leaf .leaf) (fun k _ => @Nat.rec (fun _ => T α) (.node none (ih .leaf (Nat.div k 2) v) .leaf) (fun _ _ => .node none .leaf (ih .leaf (Nat.div k 2) v)) (Nat.mod k 2)) n)
      (fun o l r _ _ n v => @Nat.rec (fun _ => T α) (.node (some v) l r) (fun k _ => @Nat.rec (fun _ => T α) (.node o (ih l (Nat.div k 2) v) r) (fun _ _ => .node o l (ih r (Nat.div k 2) v)) (Nat.mod k 2)) n) t) d
theorem T.get_leaf {α : Type} (n : Nat) : T.get (.leaf : T α) n = none := rfl
theorem T.get_0 {α : Type} (o : Option α) (l r : T α) : T.get (.node o l r) 0 = o := rfl
theorem T.get_s {α : Type} (o : Option α) (l r : T α) (k : Nat) : T.get (.node o l r) (k + 1) = match k % 2 with
    | 0 => T.get l (k / 2)
    | _ + 1 => T.get r (k / 2) := by
  show @Nat.rec (fun _ => Option α) (T.get l (k / 2)) (fun _ _ => T.get r (k / 2)) (k % 2) = _
  cases k % 2 <;> rfl
theorem T.put_leaf0 {α : Type} (d : Nat) (v : α) : T.put (d + 1) .leaf 0 v = .node (some v) .leaf .leaf := rfl
theorem T.put_leafs {α : Type} (d k : Nat) (v : α) : T.put (d + 1) .leaf (k + 1) v = match k % 2 with
    | 0 => .node none (T.put d .leaf (k / 2) v) .leaf
    | _ + 1 => .node none .leaf (T.put d .leaf (k / 2) v) := by
  show @Nat.rec (fun _ => T α) (.node none (T.put d .leaf (k / 2) v) .leaf) (fun _ _ => .node none .leaf (T.put d .leaf (k / 2) v)) (k % 2) = _
  cases k % 2 <;> rfl
theorem T.put_0 {α : Type} (d : Nat) (o : Option α) (l r : T α) (v : α) : T.put (d + 1) (.node o l r) 0 v = .node (some v) l r := rfl
theorem T.put_s {α : Type} (d : Nat) (o : Option α) (l r : T α) (k : Nat) (v : α) : T.put (d + 1) (.node o l r) (k + 1) v = match k % 2 with
    | 0 => .node o (T.put d l (k / 2) v) r
    | _ + 1 => .node o l (T.put d r (k / 2) v) := by
  show @Nat.rec (fun _ => T α) (.node o (T.put d l (k / 2) v) r) (fun _ _ => .node o l (T.put d r (k / 2) v)) (k % 2) = _
  cases k % 2 <;> rfl
theorem T.get_put {α : Type} : ∀ (d : Nat) (t : T α) (n m : Nat) (v : α), n + 1 < 2 ^ d → T.get (T.put d t n v) m = if m = n then some v else T.get t m
  | 0, t, n, m, v, h => by
    exfalso
    have : (2 : Nat) ^ 0 = 1 := rfl
    omega
  | d + 1, .leaf, 0, 0, v, h => rfl
  | d + 1, .leaf, 0, m + 1, v, h => by
    have e : ¬ m + 1 = 0 := by omega
    rw [if_neg e, T.get_leaf, T.put_leaf0, T.get_s]
    cases m % 2 <;> rfl
  | d + 1, .leaf, k + 1, m, v, h => by
    have hk : k / 2 + 1 < 2 ^ d := by
      have : (2 : Nat) ^ (d + 1) = 2 ^ d * 2 := Nat.pow_succ ..
      omega
    have ih := fun m' => T.get_put d .leaf (k / 2) m' v hk
    rw [T.get_leaf, T.put_leafs]
    cases m with
    | zero =>
      rw [if_neg (by omega)]
      cases k % 2 <;> rfl
    | succ j =>
      cases ek : k % 2 with
      | zero =>
        simp only []
        rw [T.get_s]
        cases ej : j % 2 with
        | zero =>
          simp only [ih, T.get_leaf]
          by_cases e : j / 2 = k / 2
          · rw [if_pos e, if_pos (by omega)]
          · rw [if_neg e, if_neg (by omega)]
        | succ z => simp only [T.get_leaf]; rw [if_neg (by omega)]
      | succ y =>
        simp only []
        rw [T.get_s]
        cases ej : j % 2 with
        | zero => simp only [T.get_leaf]; rw [if_neg (by omega)]
        | succ z =>
          simp only [ih, T.get_leaf]
          by_cases e : j / 2 = k / 2
          · rw [if_pos e, if_pos (by omega)]
          · rw [if_neg e, if_neg (by omega)]
  | d + 1, .node o l r, 0, 0, v, h => rfl
  | d + 1, .node o l r, 0, m + 1, v, h => by
    rw [if_neg (by omega), T.put_0, T.get_s, T.get_s]
  | d + 1, .node o l r, k + 1, m, v, h => by
    have hk : k / 2 + 1 < 2 ^ d := by
      have : (2 : Nat) ^ (d + 1) = 2 ^ d * 2 := Nat.pow_succ ..
      omega
    have il := fun m' => T.get_put d l (k / 2) m' v hk
    have ir := fun m' => T.get_put d r (k / 2) m' v hk
    rw [T.put_s]
    cases m with
    | zero =>
      rw [if_neg (by omega)]
      cases k % 2 <;> rfl
    | succ j =>
      rw [T.get_s o l r]
      cases ek : k % 2 with
      | zero =>
        simp only []
        rw [T.get_s]
        cases ej : j % 2 with
        | zero =>
          simp only [il]
          by_cases e : j / 2 = k / 2
          · rw [if_pos e, if_pos (by omega)]
          · rw [if_neg e, if_neg (by omega)]
        | succ z => simp only; rw [if_neg (by omega)]
      | succ y =>
        simp only []
        rw [T.get_s]
        cases ej : j % 2 with
        | zero => simp only; rw [if_neg (by omega)]
        | succ z =>
          simp only [ir]
          by_cases e : j / 2 = k / 2
          · rw [if_pos e, if_pos (by omega)]
          · rw [if_neg e, if_neg (by omega)]

structure Hh where
  nx : Nat
  t : T Ob
/-- nothing made yet -/
def hp0 : Hh := ⟨0, .leaf⟩
noncomputable def Hh.get (h : Hh) (n : Nat) : Option Ob := h.t.get n
noncomputable def Hh.put (h : Hh) (n : Nat) (o : Ob) : Hh := ⟨h.nx, h.t.put 40 n o⟩
/-- a number that is told as it is -/
def frN {α : Type} (n : Nat) (k : Nat → α) : α := match n with
  | 0 => k 0
  | m + 1 => k (m + 1)
theorem frN_eq {α : Type} (n : Nat) (k : Nat → α) : frN n k = k n := by cases n <;> rfl
noncomputable def Hh.new (h : Hh) (o : Ob) : Hh := ⟨Nat.succ h.nx, h.t.put 40 h.nx o⟩

inductive R (α : Type) where
  | ok (a : α) (h : Hh)
  | no (c : Nat)
def R.bind {α β : Type} (r : R α) (f : α → Hh → R β) : R β := match r with
  | .ok a h => f a h
  | .no c => .no c

/-! ### plain functions on values -/
def natsEq : List Nat → List Nat → Bool
  | [], [] => true
  | a :: x, b :: y => match Nat.beq a b with
    | true => natsEq x y
    | false => false
  | _, _ => false
def strEq (a b : Str) : Bool := natsEq a.cps.toList b.cps.toList
theorem natsEq_eq : ∀ a b : List Nat, natsEq a b = decide (a = b)
  | [], [] => rfl
  | [], _ :: _ => rfl
  | _ :: _, [] => rfl
  | a :: x, b :: y => by
    simp only [natsEq]
    cases e : Nat.beq a b with
    | true =>
      have := Nat.eq_of_beq_eq_true e
      subst this
      simp only [natsEq_eq x y, List.cons.injEq, true_and]
    | false =>
      have := Nat.ne_of_beq_eq_false e
      simp [this]
theorem strEq_eq (a b : Str) : strEq a b = decide (a = b) := by
  unfold strEq
  rw [natsEq_eq]
  congr 1
  apply propext
  constructor
  · intro h
    cases a; cases b
    simp only [Str.mk.injEq]
    exact Array.toList_inj.mp h
  · rintro rfl; rfl

/-- the same, for the evaluation -/
noncomputable def natsF (a : List Nat) : List Nat → Bool :=
  @List.rec Nat (fun _ => List Nat → Bool) (fun b => @List.rec Nat (fun _ => Bool) true (fun _ _ _ => false) b)
    (fun x _ ih b => @List.rec Nat (fun _ => Bool) false (fun y ys _ => @Bool.rec (fun _ => Bool) false (ih ys) (Nat.beq x y)) b) a
theorem natsF_eq : ∀ a b : List Nat, natsF a b = natsEq a b
  | [], [] => rfl
  | [], _ :: _ => rfl
  | _ :: _, [] => rfl
  | a :: x, b :: y => by
    show @Bool.rec (fun _ => Bool) false (natsF x y) (Nat.beq a b) = match Nat.beq a b with
      | true => natsEq x y
      | false => false
    cases Nat.beq a b with
    | true => exact natsF_eq x y
    | false => rfl
noncomputable def strF (a b : Str) : Bool := natsF a.cps.toList b.cps.toList
theorem strF_eq (a b : Str) : strF a b = decide (a = b) := (natsF_eq _ _).trans (strEq_eq a b)

def intEq : Int → Int → Bool
  | .ofNat a, .ofNat b => Nat.beq a b
  | .negSucc a, .negSucc b => Nat.beq a b
  | _, _ => false
theorem intEq_eq (a b : Int) : intEq a b = decide (a = b) := by
  cases a with
  | ofNat a =>
    cases b with
    | ofNat b =>
      simp only [intEq, Int.ofNat.injEq]
      cases e : Nat.beq a b with
      | true => simp [Nat.eq_of_beq_eq_true e]
      | false => simp [Nat.ne_of_beq_eq_false e]
    | negSucc b => simp [intEq]
  | negSucc a =>
    cases b with
    | ofNat b => simp [intEq]
    | negSucc b =>
      simp only [intEq, Int.negSucc.injEq]
      cases e : Nat.beq a b with
      | true => simp [Nat.eq_of_beq_eq_true e]
      | false => simp [Nat.ne_of_beq_eq_false e]

def b2n : Bool → Int
  | true => 1
  | false => 0
def allP (f : PV → Bool) : List PV → Bool
  | [] => true
  | x :: xs => match f x with
    | true => allP f xs
    | false => false
/-- data without lists, at most so deep -/
noncomputable def pureV : Nat → PV → Bool
  | 0, _ => false
  | d + 1, v => match v with
    | .tup xs => allP (pureV d) xs
    | .ref _ => false
    | .fro _ => false
    | _ => true
def eqs (f : PV → PV → Bool) : List PV → List PV → Bool
  | [], [] => true
  | x :: xs, y :: ys => match f x y with
    | true => eqs f xs ys
    | false => false
  | _, _ => false
/-- a == b of data without lists -/
noncomputable def keq : Nat → PV → PV → Bool
  | 0, _, _ => false
  | d + 1, a, b => match a with
    | .int i => match b with
      | .int j => intEq i j
      | .bl y => intEq i (b2n y)
      | _ => false
    | .str x => match b with
      | .str y => strF x y
      | _ => false
    | .tup xs => match b with
      | .tup ys => eqs (keq d) xs ys
      | _ => false
    | .bl x => match b with
      | .bl y => x == y
      | .int j => intEq (b2n x) j
      | _ => false
    | .non => match b with
      | .non => true
      | _ => false
    | _ => false
/-- a list's items -/
noncomputable def lsOf (h : Hh) (v : PV) : Option (List PV) := match v with
  | .fro xs => some xs
  | .ref n => match h.get n with
    | some (.lst xs) => some xs
    | _ => none
  | _ => none
/-- data, lists too -/
noncomputable def dataV (h : Hh) : Nat → PV → Bool
  | 0, _ => false
  | d + 1, v => match v with
    | .tup xs => allP (dataV h d) xs
    | .fro xs => allP (dataV h d) xs
    | .ref n => match h.get n with
      | some (.lst xs) => allP (dataV h d) xs
      | _ => false
    | _ => true
/-- a == b of data -/
noncomputable def deq (h : Hh) : Nat → PV → PV → Bool
  | 0, _, _ => false
  | d + 1, a, b => match a with
    | .int i => match b with
      | .int j => intEq i j
      | .bl y => intEq i (b2n y)
      | _ => false
    | .str x => match b with
      | .str y => strF x y
      | _ => false
    | .bl x => match b with
      | .bl y => x == y
      | .int j => intEq (b2n x) j
      | _ => false
    | .non => match b with
      | .non => true
      | _ => false
    | .tup xs => match b with
      | .tup ys => eqs (deq h d) xs ys
      | _ => false
    | a => match lsOf h a with
      | some xs => match lsOf h b with
        | some ys => eqs (deq h d) xs ys
        | none => false
      | none => false
def depthMax : Nat := 50
def scalar : PV → Bool
  | .int _ => true
  | .str _ => true
  | .bl _ => true
  | .non => true
  | _ => false
/-- a == b; none: not told here -/
noncomputable def veq (h : Hh) (a b : PV) : Option Bool := match scalar a && scalar b with
  | true => some (keq 1 a b)
  | false => match dataV h depthMax a && dataV h depthMax b with
    | true => some (deq h depthMax a b)
    | false => none

/-- a < b of data; none: not told here -/
def natsLt : List Nat → List Nat → Bool
  | [], [] => false
  | [], _ :: _ => true
  | _ :: _, [] => false
  | a :: x, b :: y => match Nat.beq a b with
    | true => natsLt x y
    | false => Nat.blt a b
def intLt (a b : Int) : Bool := match b - a with
  | .ofNat 0 => false
  | .ofNat (_ + 1) => true
  | .negSucc _ => false
def ltsP (eq lt : PV → PV → Option Bool) : List PV → List PV → Option Bool
  | [], [] => some false
  | [], _ :: _ => some true
  | _ :: _, [] => some false
  | x :: xs, y :: ys => match eq x y with
    | some true => ltsP eq lt xs ys
    | some false => lt x y
    | none => none
noncomputable def vlt : Nat → PV → PV → Option Bool
  | 0, _, _ => none
  | d + 1, a, b => match a with
    | .int i => match b with
      | .int j => some (intLt i j)
      | _ => none
    | .str x => match b with
      | .str y => some (natsLt x.cps.toList y.cps.toList)
      | _ => none
    | .tup xs => match b with
      | .tup ys => ltsP (fun x y => match pureV d x && pureV d y with
        | true => some (keq d x y)
        | false => none) (vlt d) xs ys
      | _ => none
    | _ => none

/-! ### order of data of one shape -/
inductive Sg where
  | int | str | bl | non
  | tup (ss : List Sg)
def confs (f : Sg → PV → Bool) : List Sg → List PV → Bool
  | _, [] => true
  | [], _ :: _ => false
  | s :: ss, x :: xs => match f s x with
    | true => confs f ss xs
    | false => false
/-- is the value of this shape -/
def conf : Nat → Sg → PV → Bool
  | 0, _, _ => false
  | d + 1, s, v => match v with
    | .int _ => match s with
      | .int => true
      | _ => false
    | .str _ => match s with
      | .str => true
      | _ => false
    | .bl _ => match s with
      | .bl => true
      | _ => false
    | .non => match s with
      | .non => true
      | _ => false
    | .tup xs => match s with
      | .tup ss => confs (conf d) ss xs
      | _ => false
    | _ => false
def mapS {α β : Type} (f : α → β) : List α → List β
  | [] => []
  | x :: xs => f x :: mapS f xs
def sgOf : Nat → PV → Sg
  | 0, _ => .non
  | d + 1, v => match v with
    | .int _ => .int
    | .str _ => .str
    | .bl _ => .bl
    | .tup xs => .tup (mapS (sgOf d) xs)
    | _ => .non
def unis (f : Sg → PV → Sg) (g : PV → Sg) : List Sg → List PV → List Sg
  | ss, [] => ss
  | [], x :: xs => g x :: unis f g [] xs
  | s :: ss, x :: xs => f s x :: unis f g ss xs
/-- a shape made wider -/
def uni : Nat → Sg → PV → Sg
  | 0, s, _ => s
  | d + 1, s, v => match s with
    | .tup ss => match v with
      | .tup xs => .tup (unis (uni d) (sgOf d) ss xs)
      | _ => s
    | _ => s
def shp (d : Nat) : Sg → List PV → Sg
  | s, [] => s
  | s, x :: xs => shp d (uni d s x) xs
def shpOf (d : Nat) : List PV → Sg
  | [] => .non
  | x :: xs => shp d (sgOf d x) xs
def ltsQ (eq lt : PV → PV → Bool) : List PV → List PV → Bool
  | [], [] => false
  | [], _ :: _ => true
  | _ :: _, [] => false
  | x :: xs, y :: ys => match eq x y with
    | true => ltsQ eq lt xs ys
    | false => lt x y
/-- a < b of data of one shape -/
noncomputable def ltP : Nat → PV → PV → Bool
  | 0, _, _ => false
  | d + 1, a, b => match a with
    | .int i => match b with
      | .int j => intLt i j
      | _ => false
    | .str x => match b with
      | .str y => natsLt x.cps.toList y.cps.toList
      | _ => false
    | .bl x => match b with
      | .bl y => match x with
        | false => y
        | true => false
      | _ => false
    | .tup xs => match b with
      | .tup ys => ltsQ (keq d) (ltP d) xs ys
      | _ => false
    | _ => false
def dpS : Nat := 12
def ins {α : Type} (lt : α → α → Bool) (a : α) : List α → List α
  | [] => [a]
  | x :: xs => match lt x a with
    | false => a :: x :: xs
    | true => x :: ins lt a xs
def isort {α : Type} (lt : α → α → Bool) : List α → List α
  | [] => []
  | x :: xs => ins lt x (isort lt xs)
def tup1 : PV → Bool
  | .tup (_ :: _) => true
  | _ => false
def notTN : PV → Bool
  | .tup _ => false
  | .non => false
  | _ => true
/-- can they be sorted -/
noncomputable def canSort (xs : List PV) : Bool := (allP tup1 xs || allP notTN xs) && allP (conf dpS (shpOf dpS xs)) xs
end Ev

set_option Elab.async false
set_option linter.all false
set_option maxRecDepth 100000
/-! Ev2: code and its evaluation. -/
namespace Ev
open PySem

inductive Bop where
  | add | sub | mul | fdiv | mod | pow
inductive Cop where
  | eq | ne | lt | le | gt | ge | isN | notN | mem | nmem
/-- built-ins by values -/
inductive Bi where
  | len | abs | int | list | tuple | sorted | min2 | max2 | sum | any | all | min1 | max1 | sset | lrange | litems | lkeys
/-- methods of built-in kinds -/
inductive Mt where
  | append | pop | pop0 | extend | get1 | get2 | index | setdefault
/-- kinds for isinstance -/
inductive Kd where
  | int | bool | str | tuple | list | dict
inductive Tg where
  | var (i : Nat)
  | tup (ts : List Tg)
/-- where a parameter comes from -/
inductive Ar where
  | a (i : Nat)
  | d (v : PV)
mutual
inductive C where
  | var (i : Nat)
  | lit (v : PV)
  | tup (es : List C)
  | lst (es : List C)
  | dct (ks vs : List C)
  | bin (op : Bop) (a b : C)
  | neg (a : C)
  | not (a : C)
  | cmp (op : Cop) (a b : C)
  | chain (o1 o2 : Cop) (a b c : C)
  | and (a b : C)
  | or (a b : C)
  | ite (t a b : C)
  | ix (a b : C)
  | sl (a : C) (lo hi : Option C)
  | rv (a : C)
  | fld (a : C) (f : Nat)
  | call (g : Nat) (es : List C) (ar : List Ar)
  | callP (g : Nat) (es : List C) (ar : List Ar)
  | omth (m : Nat) (a : C) (es : List C) (alts : List (Nat × List Ar))
  | make (c : Nat) (es : List C) (ar : List Ar)
  | bi (b : Bi) (es : List C)
  | mt (m : Mt) (a : C) (es : List C)
  | isi (a : C) (ks : List Kd)
  | cix (xs : List Str) (a : C)
  | lc (own : List Nat) (tg : Tg) (it : Iy) (ifs : List C) (e : C)
  | dc (own : List Nat) (tg : Tg) (it : Iy) (ifs : List C) (k v : C)
  | never (n : Nat)
inductive Iy where
  | seq (e : C)
  | range1 (a : C)
  | range2 (a b : C)
  | enum (e : C)
  | zip (a b : C) (strict : Bool)
  | items (e : C)
end
inductive S where
  | asg (tg : Tg) (e : C)
  /-- name i = f if c else g; return name(..): a, b the two calls -/
  | pick (c : C) (i : Nat) (a b : C)
  | par (is : List Nat) (es : List C)
  | aug (i : Nat) (op : Bop) (e : C)
  | augI (o i : C) (op : Bop) (e : C)
  | augF (o : C) (f : Nat) (op : Bop) (e : C)
  | setI (o i e : C)
  | setF (o : C) (f : Nat) (e : C)
  | expr (e : C)
  | ret (e : C)
  | retN
  | iff (c : C) (a b : List S)
  | whl (c : C) (b : List S)
  | forr (tg : Tg) (it : Iy) (b : List S)
  | pass
  | brk
  | cont
  | never (n : Nat)

abbrev Env := List (Option PV)
inductive Fl where
  | nx (e : Env)
  | rt (v : PV)
  | bk (e : Env)
  | ct (e : Env)

noncomputable section
/-! ### by values -/
def sizeMax : Nat := 16777216
def bound64 (i : Int) : Bool := match i with
  | .ofNat n => Nat.blt n 18446744073709551616
  | .negSucc n => Nat.blt (n + 1) 18446744073709551616
def bound62 (i : Int) : Bool := match i with
  | .ofNat n => Nat.blt n 4611686018427387904
  | .negSucc n => Nat.blt n 4611686018427387904
def isZ : Int → Bool
  | .ofNat 0 => true
  | _ => false
def idx (n : Nat) : Int → Option Nat
  | .ofNat i => match Nat.blt i n with
    | true => some i
    | false => none
  | .negSucc i => match Nat.blt i n with
    | true => some (n - (i + 1))
    | false => none
def cutIx (n d : Nat) : Option Int → Nat
  | none => d
  | some (.ofNat i) => Nat.min i n
  | some (.negSucc i) => n - (i + 1)
def cut (xs : List PV) (lo hi : Option Int) : List PV := (xs.drop (cutIx xs.length 0 lo)).take (cutIx xs.length xs.length hi - cutIx xs.length 0 lo)
def newOb (o : Ob) (h : Hh) : R PV := match Nat.blt h.nx 1000000000 with
  | true => frN h.nx fun n => .ok (.ref n) (h.new o)
  | false => .no 1
def sizeOk (n : Nat) : Bool := Nat.ble n sizeMax
def strLen (x : Str) : Nat := x.cps.size
def bAdd (a b : PV) (h : Hh) : R PV := match a with
  | .int i => match b with
    | .int j => .ok (.int (i + j)) h
    | _ => .no 12
  | .tup xs => match b with
    | .tup ys => match sizeOk (xs.length + ys.length) with
      | true => .ok (.tup (xs ++ ys)) h
      | false => .no 7
    | _ => .no 12
  | .str x => match b with
    | .str y => match sizeOk (strLen x + strLen y) with
      | true => .ok (.str (x ++ y)) h
      | false => .no 6
    | _ => .no 12
  | .ref n => match b with
    | .ref m => match h.get n, h.get m with
      | some (.lst xs), some (.lst ys) => match sizeOk (xs.length + ys.length) with
        | true => newOb (.lst (xs ++ ys)) h
        | false => .no 8
      | _, _ => .no 9
    | _ => .no 12
  | _ => .no 12
def bSub (a b : PV) (h : Hh) : R PV := match a, b with
  | .int i, .int j => .ok (.int (i - j)) h
  | _, _ => .no 12
def bMul (a b : PV) (h : Hh) : R PV := match b with
  | .int j => match a with
    | .int i => match bound64 i || bound64 j with
      | true => .ok (.int (i * j)) h
      | false => .no 2
    | .tup xs => match bound62 j && sizeOk (xs.length * j.toNat) with
      | true => .ok (.tup (List.replicate j.toNat xs).flatten) h
      | false => .no 10
    | .ref n => match h.get n with
      | some (.lst xs) => match bound62 j && sizeOk (xs.length * j.toNat) with
        | true => newOb (.lst (List.replicate j.toNat xs).flatten) h
        | false => .no 10
      | _ => .no 11
    | _ => .no 12
  | _ => .no 12
def bMod (a b : PV) (h : Hh) : R PV := match a, b with
  | .int i, .int j => match isZ j with
    | true => .no 3
    | false => .ok (.int (i.fmod j)) h
  | _, _ => .no 12
def bDiv (a b : PV) (h : Hh) : R PV := match a, b with
  | .int i, .int j => match !isZ j && Nat.blt j.natAbs 1073741824 with
    | true => .ok (.int (i.fdiv j)) h
    | false => .no 4
  | _, _ => .no 12
def bPow (a b : PV) (h : Hh) : R PV := match a, b with
  | .int i, .int j => match j with
    | .ofNat n => match bound64 i && Nat.ble n 1000 with
      | true => .ok (.int (i ^ n)) h
      | false => .no 5
    | .negSucc _ => .no 5
  | _, _ => .no 12
def bopV (op : Bop) : PV → PV → Hh → R PV := match op with
  | .add => bAdd
  | .sub => bSub
  | .mul => bMul
  | .mod => bMod
  | .fdiv => bDiv
  | .pow => bPow
def eqV (a b : PV) (h : Hh) : R PV := match veq h a b with
  | some r => .ok (.bl r) h
  | none => .no 20
def neV (a b : PV) (h : Hh) : R PV := match veq h a b with
  | some r => .ok (.bl (!r)) h
  | none => .no 20
def ltV (neg : Bool) (a b : PV) (h : Hh) : R PV := match a with
  | .int i => match b with
    | .int j => .ok (.bl (xor neg (intLt i j))) h
    | _ => .no 21
  | .tup xs => match conf dpS (uni dpS (sgOf dpS a) b) a && conf dpS (uni dpS (sgOf dpS a) b) b with
    | true => .ok (.bl (xor neg (ltP dpS a b))) h
    | false => .no 21
  | _ => .no 21
def anyQ (h : Hh) (a : PV) : List PV → Bool
  | [] => false
  | x :: xs => match deq h depthMax x a with
    | true => true
    | false => anyQ h a xs
def memL (h : Hh) (a : PV) (xs : List PV) : Option Bool := match dataV h depthMax a && allP (dataV h depthMax) xs with
  | true => some (anyQ h a xs)
  | false => none
/-- a key's hash -/
def hashI : Int → Nat
  | .ofNat n => n + 1
  | .negSucc n => n + 600
def hashL (f : PV → Nat) : Nat → List PV → Nat
  | acc, [] => acc
  | acc, x :: xs => frN (acc * 31 + f x) fun a => hashL f a xs
def hashV : Nat → PV → Nat
  | 0, _ => 0
  | d + 1, v => match v with
    | .int i => hashI i
    | .bl b => hashI (b2n b)
    | .str x => match x.cps.toList with
      | [] => 0
      | c :: _ => c
    | .tup xs => hashL (hashV d) 5 xs
    | _ => 0
def hsK (k : PV) : Nat := Nat.mod (hashV 9 k) 1024
/-- a key's value among entries of one hash -/
def lookK (k : PV) : List (PV × PV) → Option PV
  | [] => none
  | q :: r => match keq 8 q.1 k with
    | true => some q.2
    | false => lookK k r
def putK (k v : PV) : List (PV × PV) → List (PV × PV)
  | [] => [(k, v)]
  | q :: r => match keq 8 q.1 k with
    | true => (q.1, v) :: r
    | false => q :: putK k v r
def Dd.bkt (d : Dd) (c : Nat) : List (PV × PV) := match d.t.get c with
  | some b => b
  | none => []
def Dd.look (d : Dd) (k : PV) : Option PV := frN (hsK k) fun c => lookK k (d.bkt c)
def isTupV : PV → Bool
  | .tup _ => true
  | _ => false
/-- d[k] = v -/
def Dd.put (d : Dd) (k v : PV) : Dd := frN (hsK k) fun c => match lookK k (d.bkt c) with
  | some _ => ⟨d.tk, d.n, d.ks, d.t.put 40 c (putK k v (d.bkt c))⟩
  | none => frN (d.n + 1) fun n => ⟨isTupV k, n, k :: d.ks, d.t.put 40 c (putK k v (d.bkt c))⟩
def Dd.nil : Dd := ⟨false, 0, [], .leaf⟩
/-- the entries in their order -/
def Dd.ents (d : Dd) : List PV → List (PV × PV) → List (PV × PV)
  | [], acc => acc
  | k :: ks, acc => match d.look k with
    | some v => Dd.ents d ks ((k, v) :: acc)
    | none => Dd.ents d ks acc
def Dd.kvs (d : Dd) : List (PV × PV) := d.ents d.ks []
/-- may it be asked for this key -/
def Dd.kOk (d : Dd) (k : PV) : Bool := match k with
  | .tup _ => (d.tk || Nat.beq d.n 0) && pureV 8 k
  | .int _ => !d.tk
  | .str _ => !d.tk
  | _ => false
/-- a dict -/
def ddOf (h : Hh) (n : Nat) : Option Dd := match h.get n with
  | some (.dct d) => some d
  | some (.dlk d) => some d
  | _ => none
def memV (neg : Bool) (a b : PV) (h : Hh) : R PV := match b with
  | .tup xs => match memL h a xs with
    | some r => .ok (.bl (xor neg r)) h
    | none => .no 22
  | b => match lsOf h b with
    | some xs => match memL h a xs with
      | some r => .ok (.bl (xor neg r)) h
      | none => .no 23
    | none => match b with
      | .ref n => match ddOf h n with
        | some d => match d.kOk a with
          | true => match d.look a with
            | some _ => .ok (.bl (!neg)) h
            | none => .ok (.bl neg) h
          | false => .no 24
        | none => .no 25
      | _ => .no 26
def isNon : PV → Bool
  | .non => true
  | _ => false
def isV (neg : Bool) (a b : PV) (h : Hh) : R PV := match b with
  | .non => .ok (.bl (xor neg (isNon a))) h
  | _ => .no 27
def copV (op : Cop) : PV → PV → Hh → R PV := match op with
  | .eq => eqV
  | .ne => neV
  | .lt => ltV false
  | .gt => fun a b => ltV false b a
  | .le => fun a b => ltV true b a
  | .ge => ltV true
  | .isN => isV false
  | .notN => isV true
  | .mem => memV false
  | .nmem => memV true
def nil? {α : Type} : List α → Bool
  | [] => true
  | _ => false
def truth (v : PV) (h : Hh) : R Bool := match v with
  | .bl b => .ok b h
  | .non => .ok false h
  | .int i => .ok (!isZ i) h
  | .str x => match sizeOk x.cps.size with
    | true => .ok (!nil? x.cps.toList) h
    | false => .no 29
  | .tup xs => .ok (!nil? xs) h
  | v => match lsOf h v with
    | some xs => .ok (!nil? xs) h
    | none => .no 30
def listAt {α : Type} (l : List α) : Nat → Option α := @List.rec α (fun _ => Nat → Option α) (fun _ => none) (fun v _ ih n => @Nat.rec (fun _ => Option α) (some v) (fun k _ => ih k) n) l
def atL (xs : List PV) (i : Int) (h : Hh) : R PV := match idx xs.length i with
  | some n => match listAt xs n with
    | some v => .ok v h
    | none => .no 31
  | none => .no 31
def ixV (a b : PV) (h : Hh) : R PV := match a with
  | .tup xs => match b with
    | .int i => atL xs i h
    | _ => .no 33
  | .str x => match b with
    | .int i => match sizeOk x.cps.size, idx x.cps.toList.length i with
      | true, some n => match listAt x.cps.toList n with
        | some c => .ok (.str ⟨#[c]⟩) h
        | none => .no 32
      | _, _ => .no 32
    | _ => .no 33
  | a => match lsOf h a with
    | some xs => match b with
      | .int i => atL xs i h
      | _ => .no 33
    | none => match a with
      | .ref n => match ddOf h n with
        | some d => match d.kOk b with
          | true => match d.look b with
            | some v => .ok v h
            | none => .no 34
          | false => .no 35
        | none => .no 36
      | _ => .no 37
def slV (a : PV) (lo hi : Option Int) (h : Hh) : R PV := match a with
  | .tup xs => .ok (.tup (cut xs lo hi)) h
  | .str x => match sizeOk x.cps.size with
    | true => .ok (.str ⟨((x.cps.toList.drop (cutIx x.cps.size 0 lo)).take (cutIx x.cps.size x.cps.size hi - cutIx x.cps.size 0 lo)).toArray⟩) h
    | false => .no 38
  | a => match lsOf h a with
    | some xs => newOb (.lst (cut xs lo hi)) h
    | none => .no 38
def rvV (a : PV) (h : Hh) : R PV := match a with
  | .tup xs => .ok (.tup xs.reverse) h
  | .ref n => match h.get n with
    | some (.lst xs) => newOb (.lst xs.reverse) h
    | _ => .no 40
  | _ => .no 41
def lookF (f : Nat) : List (Nat × PV) → Option PV
  | [] => none
  | (g, v) :: r => match Nat.beq g f with
    | true => some v
    | false => lookF f r
def fldV (f : Nat) (a : PV) (h : Hh) : R PV := match a with
  | .ref n => match h.get n with
    | some (.ins _ fs) => match lookF f fs with
      | some v => .ok v h
      | none => .no 44
    | _ => .no 42
  | _ => .no 43
def putFs (f : Nat) (v : PV) : List (Nat × PV) → List (Nat × PV)
  | [] => [(f, v)]
  | (g, w) :: r => match Nat.beq g f with
    | true => (g, v) :: r
    | false => (g, w) :: putFs f v r
def itemsOf (v : PV) (h : Hh) : Option (List PV) := match v with
  | .tup xs => some xs
  | v => lsOf h v
def sumV : Int → List PV → Option Int
  | acc, [] => some acc
  | acc, .int i :: r => sumV (acc + i) r
  | _, _ :: _ => none
def blsV : List PV → Option (List Bool)
  | [] => some []
  | .bl b :: r => match blsV r with
    | some bs => some (b :: bs)
    | none => none
  | _ :: _ => none
def anyB : List Bool → Bool
  | [] => false
  | true :: _ => true
  | false :: r => anyB r
def allB : List Bool → Bool
  | [] => true
  | false :: _ => false
  | true :: r => allB r
def anyV (xs : List PV) : Option Bool := match blsV xs with
  | some bs => some (anyB bs)
  | none => none
def allV (xs : List PV) : Option Bool := match blsV xs with
  | some bs => some (allB bs)
  | none => none
def minI : Int → List PV → Option Int
  | m, [] => some m
  | m, .int i :: r => minI (match intLt i m with | true => i | false => m) r
  | _, _ :: _ => none
def maxI : Int → List PV → Option Int
  | m, [] => some m
  | m, .int i :: r => maxI (match intLt m i with | true => i | false => m) r
  | _, _ :: _ => none
def uniq (h : Hh) : List PV → List PV → Option (List PV)
  | acc, [] => some acc
  | acc, x :: xs => match memL h x acc with
    | some true => uniq h acc xs
    | some false => uniq h (x :: acc) xs
    | none => none
def rangeL : Nat → Int → List PV
  | 0, _ => []
  | n + 1, i => .int i :: rangeL n (i + 1)
def pairs : List (PV × PV) → List PV
  | [] => []
  | (k, v) :: r => .tup [k, v] :: pairs r
def dOf (v : PV) (h : Hh) : Option Dd := match v with
  | .ref n => ddOf h n
  | _ => none
def lenV (v : PV) (h : Hh) : R PV := match v with
  | .tup xs => .ok (.int xs.length) h
  | .str x => match sizeOk x.cps.size with
    | true => .ok (.int x.cps.size) h
    | false => .no 50
  | v => match lsOf h v with
    | some xs => .ok (.int xs.length) h
    | none => .no 50
def absV (v : PV) (h : Hh) : R PV := match v with
  | .int i => .ok (.int i.natAbs) h
  | _ => .no 63
def intV (v : PV) (h : Hh) : R PV := match v with
  | .int i => .ok (.int i) h
  | .bl b => .ok (.int (b2n b)) h
  | _ => .no 64
def listV (v : PV) (h : Hh) : R PV := match itemsOf v h with
  | some xs => newOb (.lst xs) h
  | none => match dOf v h with
    | some d => newOb (.lst d.ks.reverse) h
    | none => .no 51
def tupV (v : PV) (h : Hh) : R PV := match itemsOf v h with
  | some xs => .ok (.tup xs) h
  | none => .no 52
def sortedV (v : PV) (h : Hh) : R PV := match lsOf h v with
  | some xs => match canSort xs && sizeOk xs.length with
    | true => newOb (.lst (isort (ltP dpS) xs)) h
    | false => .no 53
  | none => .no 53
def sumLV (v : PV) (h : Hh) : R PV := match lsOf h v with
  | some xs => match sumV 0 xs with
    | some i => .ok (.int i) h
    | none => .no 55
  | none => .no 55
def anyLV (v : PV) (h : Hh) : R PV := match lsOf h v with
  | some xs => match anyV xs with
    | some r => .ok (.bl r) h
    | none => .no 56
  | none => .no 56
def allLV (v : PV) (h : Hh) : R PV := match lsOf h v with
  | some xs => match allV xs with
    | some r => .ok (.bl r) h
    | none => .no 57
  | none => .no 57
def minLV (v : PV) (h : Hh) : R PV := match lsOf h v with
  | some (.int i :: r) => match minI i r with
    | some m => .ok (.int m) h
    | none => .no 58
  | _ => .no 58
def maxLV (v : PV) (h : Hh) : R PV := match lsOf h v with
  | some (.int i :: r) => match maxI i r with
    | some m => .ok (.int m) h
    | none => .no 58
  | _ => .no 58
def lrangeV (v : PV) (h : Hh) : R PV := match v with
  | .int n => match bound62 n && sizeOk n.toNat with
    | true => newOb (.lst (rangeL n.toNat 0)) h
    | false => .no 59
  | _ => .no 59
def litemsV (v : PV) (h : Hh) : R PV := match v with
  | .ref n => match ddOf h n with
    | some d => newOb (.lst (pairs d.kvs)) h
    | none => .no 60
  | _ => .no 60
def min2V (v w : PV) (h : Hh) : R PV := match v with
  | .int i => match w with
    | .int j => .ok (.int (match intLt j i with | true => j | false => i)) h
    | _ => .no 61
  | _ => .no 61
def max2V (v w : PV) (h : Hh) : R PV := match v with
  | .int i => match w with
    | .int j => .ok (.int (match intLt i j with | true => j | false => i)) h
    | _ => .no 61
  | _ => .no 61
def bi1 (b : Bi) : PV → Hh → R PV := match b with
  | .len => lenV
  | .abs => absV
  | .int => intV
  | .list => listV
  | .tuple => tupV
  | .sorted => sortedV
  | .sum => sumLV
  | .any => anyLV
  | .all => allLV
  | .min1 => minLV
  | .max1 => maxLV
  | .lrange => lrangeV
  | .litems => litemsV
  | _ => fun _ _ => .no 62
def bi2 (b : Bi) : PV → PV → Hh → R PV := match b with
  | .min2 => min2V
  | .max2 => max2V
  | _ => fun _ _ _ => .no 62
def biV (b : Bi) (vs : List PV) (h : Hh) : R PV := match vs with
  | [v] => bi1 b v h
  | [v, w] => bi2 b v w h
  | _ => .no 62
def indexQ (h : Hh) (a : PV) : Nat → List PV → Option Nat
  | _, [] => none
  | i, x :: xs => match deq h depthMax x a with
    | true => some i
    | false => frN (i + 1) fun j => indexQ h a j xs
def indexL (h : Hh) (a : PV) (xs : List PV) : Option Nat := match dataV h depthMax a && allP (dataV h depthMax) xs with
  | true => indexQ h a 0 xs
  | false => none
def dropLast1 : List PV → List PV
  | [] => []
  | [_] => []
  | x :: y :: r => x :: dropLast1 (y :: r)
def lastOf : List PV → Option PV
  | [] => none
  | [v] => some v
  | _ :: y :: r => lastOf (y :: r)
/-- the items of a list that is numbered -/
def lstOf (v : PV) (h : Hh) : Option (List PV) := match v with
  | .ref n => match h.get n with
    | some (.lst xs) => some xs
    | _ => none
  | _ => none
def mtLst (m : Mt) (n : Nat) (xs : List PV) (vs : List PV) (h : Hh) : R PV := match m with
  | .append => match vs with
    | [v] => match sizeOk (xs.length + 1) with
      | true => .ok .non (h.put n (.lst (xs ++ [v])))
      | false => .no 72
    | _ => .no 72
  | .extend => match vs with
    | [v] => match lstOf v h with
      | some ys => match sizeOk (xs.length + ys.length) with
        | true => .ok .non (h.put n (.lst (xs ++ ys)))
        | false => .no 73
      | none => .no 73
    | _ => .no 73
  | .pop => match vs with
    | [] => match lastOf xs with
      | some v => .ok v (h.put n (.lst (dropLast1 xs)))
      | none => .no 74
    | _ => .no 74
  | .pop0 => match vs with
    | [i] => match i with
      | .int z => match isZ z with
        | true => match xs with
          | v :: r => .ok v (h.put n (.lst r))
          | [] => .no 75
        | false => .no 75
      | _ => .no 75
    | _ => .no 75
  | _ => .no 77
def mtDct (m : Mt) (n : Nat) (d : Dd) (wr : Bool) (vs : List PV) (h : Hh) : R PV := match m, vs with
  | .get1, [k] => match d.kOk k with
    | true => match d.look k with
      | some v => .ok v h
      | none => .ok .non h
    | false => .no 78
  | .get2, [k, x] => match d.kOk k with
    | true => match d.look k with
      | some v => .ok v h
      | none => .ok x h
    | false => .no 78
  | .setdefault, [k, x] => match d.kOk k && (wr && sizeOk (d.n + 1)) with
    | true => match d.look k with
      | some v => .ok v h
      | none => .ok x (h.put n (.dct (d.put k x)))
    | false => .no 79
  | _, _ => .no 80
/-- a text's place in a constant row -/
def strIx (x : Str) : Nat → List Str → Option Nat
  | _, [] => none
  | i, y :: ys => match strEq y x with
    | true => some i
    | false => strIx x (i + 1) ys
def cixV (xs : List Str) (v : PV) (h : Hh) : R PV := match v with
  | .str x => match strIx x 0 xs with
    | some i => .ok (.int i) h
    | none => .no 71
  | _ => .no 71
def mtV (m : Mt) (a : PV) (vs : List PV) (h : Hh) : R PV := match a with
  | .ref n => match h.get n with
    | some (.lst xs) => mtLst m n xs vs h
    | some (.dct d) => mtDct m n d true vs h
    | some (.dlk d) => mtDct m n d false vs h
    | _ => .no 81
  | _ => .no 82
def setIV (o i v : PV) (h : Hh) (k : Hh → R Fl) : R Fl := match o with
  | .ref n => match h.get n with
    | some (.lst xs) => match i with
      | .int j => match idx xs.length j with
        | some p => k (h.put n (.lst (xs.set p v)))
        | none => .no 90
      | _ => .no 91
    | some (.dct d) => match d.kOk i && sizeOk (d.n + 1) with
      | true => k (h.put n (.dct (d.put i v)))
      | false => .no 92
    | _ => .no 93
  | _ => .no 94
def hasF (f : Nat) : List (Nat × PV) → Bool
  | [] => false
  | (g, _) :: r => match Nat.beq g f with
    | true => true
    | false => hasF f r
def setFV (ok : Nat → Nat → Bool) (o : PV) (f : Nat) (v : PV) (h : Hh) (k : Hh → R Fl) : R Fl := match o with
  | .ref n => match h.get n with
    | some (.ins c fs) => match (hasF f fs || ok c f) && Nat.blt fs.length 1000 with
      | true => k (h.put n (.ins c (putFs f v fs)))
      | false => .no 95
    | _ => .no 96
  | _ => .no 97
/-- which kind: none for an instance -/
def kindV (v : PV) (h : Hh) : Option Nat := match v with
  | .non => some 0
  | .bl _ => some 1
  | .int _ => some 2
  | .str _ => some 3
  | .tup _ => some 4
  | .fro _ => some 5
  | .ref n => match h.get n with
    | some (.lst _) => some 5
    | some (.dct d) => match d.tk with
      | false => some 6
      | true => none
    | some (.dlk d) => match d.tk with
      | false => some 6
      | true => none
    | _ => none
def isKd (n : Nat) : Kd → Bool
  | .int => Nat.beq n 1 || Nat.beq n 2
  | .bool => Nat.beq n 1
  | .str => Nat.beq n 3
  | .tuple => Nat.beq n 4
  | .list => Nat.beq n 5
  | .dict => Nat.beq n 6
def isKdN (n : Nat) : List Kd → Bool
  | [] => false
  | k :: ks => isKd n k || isKdN n ks
def isKds (v : PV) (h : Hh) (ks : List Kd) : Option Bool := match kindV v h with
  | some n => some (isKdN n ks)
  | none => none
end
end Ev

set_option Elab.async false
set_option linter.all false
set_option maxRecDepth 100000
/-! Ev3: evaluation: what code does, one small word a construct; the functions over the calls' depth. -/
namespace Ev
open PySem

noncomputable section
/-- what an expression, a test, a statement does -/
structure Ee where
  run : Env → Hh → R PV
structure Et where
  run : Env → Hh → R Bool
structure Es where
  run : Env → Hh → R Fl
abbrev CallT := Nat → List PV → Hh → R PV

/-- a class: its __init__ (a function's number), its methods (a name's number, a function's number) -/
structure ClsC where
  init : Option Nat
  mts : List (Nat × Nat)
  flds : List Nat
/-- a function: how many slots, its body -/
structure FnC where
  slots : Nat
  body : List S
structure PrC where
  fns : List FnC
  cls : List ClsC

def eget (e : Env) : Nat → Option PV := @List.rec (Option PV) (fun _ => Nat → Option PV) (fun _ => none) (fun o _ ih n => @Nat.rec (fun _ => Option PV) o (fun k _ => ih k) n) e
def eset (e : Env) : Nat → PV → Env := @List.rec (Option PV) (fun _ => Nat → PV → Env) (fun _ _ => []) (fun o r ih n v => @Nat.rec (fun _ => Env) (some v :: r) (fun k _ => o :: ih k v) n) e
/-! a target's store -/
mutual
def stTg : Tg → PV → Env → Option Env
  | .var i, v, env => some (eset env i v)
  | .tup ts, v, env => match v with
    | .tup vs => stTgs ts vs env
    | _ => none
def stTgs : List Tg → List PV → Env → Option Env
  | [], [], env => some env
  | t :: ts, v :: vs, env => match stTg t v env with
    | some env1 => stTgs ts vs env1
    | none => none
  | _, _, _ => none
end
def setAll : List Nat → List PV → Env → Env
  | i :: is, v :: vs, env => setAll is vs (eset env i v)
  | _, _, env => env
def wipe1 : Env → Nat → Env
  | [], _ => []
  | _ :: r, 0 => none :: r
  | o :: r, n + 1 => o :: wipe1 r n
def wipeE : Env → List Nat → Env
  | env, [] => env
  | env, i :: is => wipe1 (wipeE env is) i
def argsOf (vs : List PV) : List Ar → Option (List PV)
  | [] => some []
  | .a i :: r => match listAt vs i with
    | some v => match argsOf vs r with
      | some ws => some (v :: ws)
      | none => none
    | none => none
  | .d v :: r => match argsOf vs r with
    | some ws => some (v :: ws)
    | none => none

def evL : List Ee → Env → Hh → R (List PV)
  | [], _, h => .ok [] h
  | c :: cs, env, h => match c.run env h with
    | .ok v h1 => match evL cs env h1 with
      | .ok vs h2 => .ok (v :: vs) h2
      | .no n => .no n
    | .no n => .no n
/-- an optional part of a slice -/
def evO (c : Option Ee) (env : Env) (h : Hh) (k : Option Int → Hh → R PV) : R PV := match c with
  | none => k none h
  | some c => match c.run env h with
    | .ok v h1 => match v with
      | .int i => k (some i) h1
      | _ => .no 100
    | .no n => .no n
def evTs : List Et → Env → Hh → R Bool
  | [], _, h => .ok true h
  | c :: cs, env, h => match c.run env h with
    | .ok b h1 => match b with
      | true => evTs cs env h1
      | false => .ok false h1
    | .no n => .no n
/-- a turn's end: it goes on, it is left, it returns -/
inductive Lp (α : Type) where
  | nx (a : α)
  | br (a : α)
  | rt (v : PV)
/-- turns over items that are told -/
def turns {α : Type} (f : PV → α → Hh → R (Lp α)) : List PV → α → Hh → R (Lp α)
  | [], a, h => .ok (.nx a) h
  | v :: vs, a, h => match f v a h with
    | .ok (.nx a1) h1 => turns f vs a1 h1
    | .ok (.br a1) h1 => .ok (.nx a1) h1
    | .ok (.rt v) h1 => .ok (.rt v) h1
    | .no n => .no n
/-- turns over a list as it is -/
def turnsL {α : Type} (f : PV → α → Hh → R (Lp α)) (n : Nat) : Nat → Nat → α → Hh → R (Lp α)
  | 0, _, _, _ => .no 101
  | d + 1, i, a, h => match lsOf h (.ref n) with
    | some xs => match listAt xs i with
      | none => .ok (.nx a) h
      | some v => match f v a h with
        | .ok (.nx a1) h1 => frN (i + 1) fun j => turnsL f n d j a1 h1
        | .ok (.br a1) h1 => .ok (.nx a1) h1
        | .ok (.rt v) h1 => .ok (.rt v) h1
        | .no n => .no n
    | none => .no 102
/-- enumerate over a list as it is: the turn's number and the item -/
def turnsE {α : Type} (f : PV → α → Hh → R (Lp α)) (n : Nat) : Nat → Nat → α → Hh → R (Lp α)
  | 0, _, _, _ => .no 101
  | d + 1, i, a, h => match lsOf h (.ref n) with
    | some xs => match listAt xs i with
      | none => .ok (.nx a) h
      | some v => match f (.tup [.int i, v]) a h with
        | .ok (.nx a1) h1 => frN (i + 1) fun j => turnsE f n d j a1 h1
        | .ok (.br a1) h1 => .ok (.nx a1) h1
        | .ok (.rt v) h1 => .ok (.rt v) h1
        | .no n => .no n
    | none => .no 102
/-- range: so many ints, from i on -/
def turnsR {α : Type} (f : PV → α → Hh → R (Lp α)) : Nat → Int → α → Hh → R (Lp α)
  | 0, _, a, h => .ok (.nx a) h
  | d + 1, i, a, h => match f (.int i) a h with
    | .ok (.nx a1) h1 => turnsR f d (i + 1) a1 h1
    | .ok (.br a1) h1 => .ok (.nx a1) h1
    | .ok (.rt v) h1 => .ok (.rt v) h1
    | .no n => .no n
def turnsMax : Nat := 1000000
def enumL : Nat → List PV → List PV
  | _, [] => []
  | i, x :: xs => .tup [.int i, x] :: enumL (i + 1) xs
def zipL : List PV → List PV → List PV
  | x :: xs, y :: ys => .tup [x, y] :: zipL xs ys
  | _, _ => []
/-- what is walked: told items, a list as it is, a range, a list with the turns' numbers -/
inductive Wi where
  | told (xs : List PV)
  | lst (n : Nat)
  | rng (lo : Int) (c : Nat)
  | enl (n : Nat)
  | dct (n : Nat) (xs : List PV)
/-- the turns that are left: so many at most, behind so many -/
def rem {α : Type} (w : Wi) (g : PV → α → Hh → R (Lp α)) (k i : Nat) : α → Hh → R (Lp α) := match w with
  | .told xs => turns g (xs.drop i)
  | .lst n => turnsL g n k i
  | .rng lo c => turnsR g k (lo + i)
  | .enl n => turnsE g n k i
  | .dct _ xs => turns g (xs.drop i)
def Wi.size : Wi → Nat
  | .told xs => xs.length
  | .lst _ => turnsMax
  | .rng _ c => c
  | .enl _ => turnsMax
  | .dct _ xs => xs.length
def walk {α : Type} (w : Wi) (g : PV → α → Hh → R (Lp α)) : α → Hh → R (Lp α) := match w with
  | .told xs => turns g xs
  | .lst n => turnsL g n turnsMax 0
  | .rng lo c => turnsR g c lo
  | .enl n => turnsE g n turnsMax 0
  | .dct _ xs => turns g xs
/-- a dict's keys -/
def Dd.keys (d : Dd) : List PV := d.ks.reverse
/-- a dict that was locked for the walk is let go behind it; h0: the heap ahead of all -/
def unl {α : Type} (h0 : Hh) (w : Wi) (r : R α) : R α := match w with
  | .dct n _ => match r with
    | .ok a h => match h0.get n with
      | some (.dlk _) => .ok a h
      | some (.dct _) => match h.get n with
        | some (.dlk d) => .ok a (h.put n (.dct d))
        | _ => .no 160
      | none => match Nat.ble h0.nx n, h.get n with
        | true, some (.dlk d) => .ok a (h.put n (.dct d))
        | _, _ => .no 160
      | _ => .no 160
    | .no c => .no c
  | _ => r
/-- what an iterable gives -/
structure Ei where
  run : Env → Hh → R Wi
def itSeq (e : Ee) (env : Env) (h : Hh) : R Wi := match e.run env h with
  | .ok v h1 => match v with
    | .tup xs => .ok (.told xs) h1
    | .fro xs => .ok (.told xs) h1
    | .ref n => match h1.get n with
      | some (.lst _) => .ok (.lst n) h1
      | some (.dct d) => .ok (.dct n d.keys) (h1.put n (.dlk d))
      | some (.dlk d) => .ok (.dct n d.keys) h1
      | _ => .no 103
    | _ => .no 103
  | .no n => .no n
def itItems (e : Ee) (env : Env) (h : Hh) : R Wi := match e.run env h with
  | .ok v h1 => match v with
    | .ref n => match h1.get n with
      | some (.dct d) => .ok (.dct n (pairs d.kvs)) (h1.put n (.dlk d))
      | some (.dlk d) => .ok (.dct n (pairs d.kvs)) h1
      | _ => .no 103
    | _ => .no 103
  | .no n => .no n
def itRange1 (c : Ee) (env : Env) (h : Hh) : R Wi := match c.run env h with
  | .ok v h1 => match v with
    | .int n => match bound62 n with
      | true => frN n.toNat fun k => .ok (.rng 0 k) h1
      | false => .no 104
    | _ => .no 104
  | .no n => .no n
def itRange2 (c b : Ee) (env : Env) (h : Hh) : R Wi := match c.run env h with
  | .ok v h1 => match b.run env h1 with
    | .ok w h2 => match v, w with
      | .int i, .int j => match bound62 i && bound62 j with
        | true => frN (j - i).toNat fun k => .ok (.rng i k) h2
        | false => .no 105
      | _, _ => .no 105
    | .no n => .no n
  | .no n => .no n
def itEnum (e : Ee) (env : Env) (h : Hh) : R Wi := match e.run env h with
  | .ok v h1 => match v with
    | .tup xs => .ok (.told (enumL 0 xs)) h1
    | .fro xs => .ok (.told (enumL 0 xs)) h1
    | .ref n => match h1.get n with
      | some (.lst _) => .ok (.enl n) h1
      | _ => .no 106
    | _ => .no 106
  | .no n => .no n
def itZip (c b : Ee) (st : Bool) (env : Env) (h : Hh) : R Wi := match c.run env h with
  | .ok v h1 => match b.run env h1 with
    | .ok w h2 => match v, w with
      | .tup xs, .tup ys => match !st || Nat.beq xs.length ys.length with
        | true => .ok (.told (zipL xs ys)) h2
        | false => .no 107
      | _, _ => .no 107
    | .no n => .no n
  | .no n => .no n
def evIt {α : Type} (it : Ei) (g : PV → α → Hh → R (Lp α)) (env : Env) (a : α) (h : Hh) : R (Lp α) := match it.run env h with
  | .ok w h1 => walk w g a h1
  | .no n => .no n
/-- what a comprehension has made so far: how many, the last one first -/
structure Acc where
  n : Nat
  l : List PV
/-- a comprehension's turn; env: the names around, the own ones forgotten -/
def lcTurn (tg : Tg) (ifs : List Et) (e : Ee) (env : Env) (v : PV) (a : Acc) (h : Hh) : R (Lp Acc) := match stTg tg v env with
  | none => .no 109
  | some e1 => match evTs ifs e1 h with
    | .ok b h1 => match b with
      | true => match e.run e1 h1 with
        | .ok w h2 => match sizeOk (a.n + 1) with
          | true => frN (a.n + 1) fun n => .ok (.nx ⟨n, w :: a.l⟩) h2
          | false => .no 110
        | .no n => .no n
      | false => .ok (.nx a) h1
    | .no n => .no n
def evLc0 (own : List Nat) (tg : Tg) (it : Ei) (ifs : List Et) (e : Ee) (env : Env) (h : Hh) : R PV :=
  match evIt it (lcTurn tg ifs e (wipeE env own)) env ⟨0, []⟩ h with
  | .ok r h1 => match r with
    | .nx a => newOb (.lst a.l.reverse) h1
    | _ => .no 111
  | .no n => .no n
def evLc (own : List Nat) (tg : Tg) (it : Ei) (ifs : List Et) (e : Ee) (env : Env) (h : Hh) : R PV := match it.run env h with
  | .ok w h1 => unl h w (evLc0 own tg ⟨fun _ _ => .ok w h1⟩ ifs e env h)
  | .no n => .no n
/-- d[k] = v of a dict -/
def putD (n : Nat) (k v : PV) (h : Hh) : R PV := match h.get n with
  | some (.dct d) => match d.kOk k && sizeOk (d.n + 1) with
    | true => .ok (.ref n) (h.put n (.dct (d.put k v)))
    | false => .no 113
  | _ => .no 113
def dcTurn (n : Nat) (tg : Tg) (ifs : List Et) (k e : Ee) (env : Env) (v : PV) (_ : Unit) (h : Hh) : R (Lp Unit) := match stTg tg v env with
  | none => .no 112
  | some e1 => match evTs ifs e1 h with
    | .ok b h1 => match b with
      | true => match k.run e1 h1 with
        | .ok x h2 => match e.run e1 h2 with
          | .ok y h3 => match putD n x y h3 with
            | .ok _ h4 => .ok (.nx ()) h4
            | .no n => .no n
          | .no n => .no n
        | .no n => .no n
      | false => .ok (.nx ()) h1
    | .no n => .no n
def evDc0 (own : List Nat) (tg : Tg) (it : Ei) (ifs : List Et) (k e : Ee) (env : Env) (h : Hh) : R PV := match it.run env h with
  | .ok w h1 => match newOb (.dct Dd.nil) h1 with
    | .ok o h2 => match o with
      | .ref n => match walk w (dcTurn n tg ifs k e (wipeE env own)) () h2 with
        | .ok r h3 => match r with
          | .nx _ => .ok (.ref n) h3
          | _ => .no 111
        | .no n => .no n
      | _ => .no 111
    | .no n => .no n
  | .no n => .no n
def evDc (own : List Nat) (tg : Tg) (it : Ei) (ifs : List Et) (k e : Ee) (env : Env) (h : Hh) : R PV := match it.run env h with
  | .ok w h1 => unl h w (evDc0 own tg ⟨fun _ _ => .ok w h1⟩ ifs k e env h)
  | .no n => .no n
/-- a dict's display -/
def evPs : List (Ee × Ee) → Env → Hh → R (List (PV × PV))
  | [], _, h => .ok [] h
  | q :: r, env, h => match q.1.run env h with
    | .ok x h1 => match q.2.run env h1 with
      | .ok y h2 => match evPs r env h2 with
        | .ok ps h3 => .ok ((x, y) :: ps) h3
        | .no n => .no n
      | .no n => .no n
    | .no n => .no n
def putAllD (n : Nat) : List (PV × PV) → Hh → R PV
  | [], h => .ok (.ref n) h
  | q :: r, h => match putD n q.1 q.2 h with
    | .ok _ h1 => putAllD n r h1
    | .no n => .no n
def eDct (ps : List (Ee × Ee)) (env : Env) (h : Hh) : R PV := match newOb (.dct Dd.nil) h with
  | .ok o h1 => match o with
    | .ref n => match evPs ps env h1 with
      | .ok vs h2 => putAllD n vs h2
      | .no n => .no n
    | _ => .no 113
  | .no n => .no n
def toLp (r : R Fl) : R (Lp Env) := match r with
  | .ok f h => match f with
    | .nx e => .ok (.nx e) h
    | .ct e => .ok (.nx e) h
    | .bk e => .ok (.br e) h
    | .rt v => .ok (.rt v) h
  | .no n => .no n
def ofLp (r : R (Lp Env)) : R Fl := match r with
  | .ok f h => match f with
    | .nx e => .ok (.nx e) h
    | .br e => .ok (.nx e) h
    | .rt v => .ok (.rt v) h
  | .no n => .no n

/-! ### expressions -/
def eVar (i : Nat) (env : Env) (h : Hh) : R PV := match eget env i with
  | some v => .ok v h
  | none => .no 130
def eLit (v : PV) (env : Env) (h : Hh) : R PV := .ok v h
def eTup (es : List Ee) (env : Env) (h : Hh) : R PV := match evL es env h with
  | .ok vs h1 => .ok (.tup vs) h1
  | .no n => .no n
def eLst (es : List Ee) (env : Env) (h : Hh) : R PV := match evL es env h with
  | .ok vs h1 => newOb (.lst vs) h1
  | .no n => .no n
def e2 (f : PV → PV → Hh → R PV) (a b : Ee) (env : Env) (h : Hh) : R PV := match a.run env h with
  | .ok v h1 => match b.run env h1 with
    | .ok w h2 => f v w h2
    | .no n => .no n
  | .no n => .no n
def e1 (f : PV → Hh → R PV) (a : Ee) (env : Env) (h : Hh) : R PV := match a.run env h with
  | .ok v h1 => f v h1
  | .no n => .no n
def negV (v : PV) (h : Hh) : R PV := match v with
  | .int i => .ok (.int (-i)) h
  | _ => .no 132
def notV (v : PV) (h : Hh) : R PV := match v with
  | .bl b => .ok (.bl (!b)) h
  | _ => .no 133
def eAnd (a b : Ee) (env : Env) (h : Hh) : R PV := match a.run env h with
  | .ok v h1 => match v with
    | .bl c => match c with
      | true => b.run env h1
      | false => .ok (.bl false) h1
    | _ => .no 135
  | .no n => .no n
def eOr (a b : Ee) (env : Env) (h : Hh) : R PV := match a.run env h with
  | .ok v h1 => match v with
    | .bl c => match c with
      | false => b.run env h1
      | true => .ok (.bl true) h1
    | _ => .no 136
  | .no n => .no n
def eChain (f g : PV → PV → Hh → R PV) (a b c : Ee) (env : Env) (h : Hh) : R PV := match a.run env h with
  | .ok v h1 => match b.run env h1 with
    | .ok w h2 => match f v w h2 with
      | .ok r h3 => match r with
        | .bl k => match k with
          | true => match c.run env h3 with
            | .ok z h4 => g w z h4
            | .no n => .no n
          | false => .ok (.bl false) h3
        | _ => .no 134
      | .no n => .no n
    | .no n => .no n
  | .no n => .no n
def eIte (t : Et) (a b : Ee) (env : Env) (h : Hh) : R PV := match t.run env h with
  | .ok k h1 => match k with
    | true => a.run env h1
    | false => b.run env h1
  | .no n => .no n
def eSl (a : Ee) (lo hi : Option Ee) (env : Env) (h : Hh) : R PV := match a.run env h with
  | .ok v h1 => evO lo env h1 fun l h2 => evO hi env h2 fun u h3 => slV v l u h3
  | .no n => .no n
def eCall (f : List PV → Hh → R PV) (es : List Ee) (ar : List Ar) (env : Env) (h : Hh) : R PV := match evL es env h with
  | .ok vs h1 => match argsOf vs ar with
    | some ws => f ws h1
    | none => .no 137
  | .no n => .no n
def dpP : Nat := 30
/-- a call with data alone, that gives data alone: what it makes is forgotten -/
def pureF (f : List PV → Hh → R PV) (ws : List PV) (h : Hh) : R PV := match allP (pureV dpP) ws with
  | true => match f ws hp0 with
    | .ok v _ => match pureV dpP v with
      | true => .ok v h
      | false => .no 300
    | .no n => .no n
  | false => f ws h
/-- a name's function among a class's methods; a function's arguments -/
def natAt {α : Type} (m : Nat) : List (Nat × α) → Option α
  | [] => none
  | (a, g) :: r => match Nat.beq a m with
    | true => some g
    | false => natAt m r
def clsAt : List ClsC → Nat → Option ClsC
  | [], _ => none
  | c :: _, 0 => some c
  | _ :: r, n + 1 => clsAt r n
/-- the method m of the object numbered n -/
def mthOf (cls : List ClsC) (m : Nat) (v : PV) (h : Hh) : Option Nat := match v with
  | .ref n => match h.get n with
    | some (.ins c _) => match clsAt cls c with
      | some cl => natAt m cl.mts
      | none => none
    | _ => none
  | _ => none
def eOmth (cls : List ClsC) (call : CallT) (m : Nat) (a : Ee) (es : List Ee) (alts : List (Nat × List Ar)) (env : Env) (h : Hh) : R PV := match a.run env h with
  | .ok v h1 => match mthOf cls m v h1 with
    | some g => match natAt g alts with
      | some ar => match evL es env h1 with
        | .ok vs h2 => match argsOf (v :: vs) ar with
          | some ws => call g ws h2
          | none => .no 138
        | .no n => .no n
      | none => .no 138
    | none => .no 138
  | .no n => .no n
def mkEnd (o : PV) (r : R PV) : R PV := match r with
  | .ok r h3 => match isNon r with
    | true => .ok o h3
    | false => .no 139
  | .no n => .no n
def eMake (cls : List ClsC) (call : CallT) (c : Nat) (es : List Ee) (ar : List Ar) (env : Env) (h : Hh) : R PV := match evL es env h with
  | .ok vs h1 => match clsAt cls c with
    | some cl => match cl.init with
      | some g => match newOb (.ins c []) h1 with
        | .ok o h2 => match argsOf (o :: vs) ar with
          | some ws => mkEnd o (call g ws h2)
          | none => .no 139
        | .no n => .no n
      | none => .no 139
    | none => .no 139
  | .no n => .no n
def eBi (b : Bi) (es : List Ee) (env : Env) (h : Hh) : R PV := match evL es env h with
  | .ok vs h1 => biV b vs h1
  | .no n => .no n
def isLst (v : PV) (h : Hh) : Bool := match v with
  | .ref n => match h.get n with
    | some (.lst _) => true
    | _ => false
  | _ => false
def isDct (v : PV) (h : Hh) : Bool := match v with
  | .ref n => match h.get n with
    | some (.dct _) => true
    | some (.dlk _) => true
    | _ => false
  | _ => false
def mtKd (m : Mt) : PV → Hh → Bool := match m with
  | .append => isLst
  | .extend => isLst
  | .pop => isLst
  | .pop0 => isLst
  | _ => isDct
def eMt (m : Mt) (a : Ee) (es : List Ee) (env : Env) (h : Hh) : R PV := match a.run env h with
  | .ok v h1 => match mtKd m v h1 with
    | true => match evL es env h1 with
      | .ok vs h2 => mtV m v vs h2
      | .no n => .no n
    | false => .no 141
  | .no n => .no n
def isiV (ks : List Kd) (v : PV) (h : Hh) : R PV := match isKds v h ks with
  | some b => .ok (.bl b) h
  | none => .no 140
/-! ### tests -/
def tAnd (a b : Et) (env : Env) (h : Hh) : R Bool := match a.run env h with
  | .ok k h1 => match k with
    | true => b.run env h1
    | false => .ok false h1
  | .no n => .no n
def tOr (a b : Et) (env : Env) (h : Hh) : R Bool := match a.run env h with
  | .ok k h1 => match k with
    | false => b.run env h1
    | true => .ok true h1
  | .no n => .no n
def tNot (a : Et) (env : Env) (h : Hh) : R Bool := match a.run env h with
  | .ok b h1 => .ok (!b) h1
  | .no n => .no n
def tIte (t a b : Et) (env : Env) (h : Hh) : R Bool := match t.run env h with
  | .ok k h1 => match k with
    | true => a.run env h1
    | false => b.run env h1
  | .no n => .no n
def tVal (a : Ee) (env : Env) (h : Hh) : R Bool := match a.run env h with
  | .ok v h1 => truth v h1
  | .no n => .no n
/-! ### statements -/
def sAsg (tg : Tg) (e : Ee) (env : Env) (h : Hh) : R Fl := match e.run env h with
  | .ok v h1 => match stTg tg v env with
    | some e1 => .ok (.nx e1) h1
    | none => .no 150
  | .no n => .no n
def sPar (is : List Nat) (es : List Ee) (env : Env) (h : Hh) : R Fl := match evL es env h with
  | .ok vs h1 => .ok (.nx (setAll is vs env)) h1
  | .no n => .no n
/-- xs += ys -/
def extV (n : Nat) (w : PV) (h : Hh) : R PV := match h.get n with
  | some (.lst xs) => match lstOf w h with
    | some ys => match sizeOk (xs.length + ys.length) with
      | true => .ok (.ref n) (h.put n (.lst (xs ++ ys)))
      | false => .no 151
    | none => .no 151
  | _ => .no 151
def augV (op : Bop) (v w : PV) (h : Hh) : R PV := match op with
  | .add => match v with
    | .ref n => extV n w h
    | .int _ => bAdd v w h
    | .str _ => bAdd v w h
    | _ => .no 151
  | .sub => bSub v w h
  | .mul => match v with
    | .int _ => bMul v w h
    | _ => .no 151
  | _ => .no 151
def sAug (i : Nat) (op : Bop) (e : Ee) (env : Env) (h : Hh) : R Fl := match eget env i with
  | some v => match e.run env h with
    | .ok w h1 => match augV op v w h1 with
      | .ok z h2 => .ok (.nx (eset env i z)) h2
      | .no n => .no n
    | .no n => .no n
  | none => .no 151
def isInt : PV → Bool
  | .int _ => true
  | _ => false
def sAugI (o i : Ee) (op : Bop) (e : Ee) (env : Env) (h : Hh) : R Fl := match o.run env h with
  | .ok ov h1 => match i.run env h1 with
    | .ok iv h2 => match ixV ov iv h2 with
      | .ok v h3 => match e.run env h3 with
        | .ok w h4 => match isInt v with
          | true => match bopV op v w h4 with
            | .ok z h5 => setIV ov iv z h5 fun h6 => .ok (.nx env) h6
            | .no n => .no n
          | false => .no 152
        | .no n => .no n
      | .no n => .no n
    | .no n => .no n
  | .no n => .no n
def okF (cls : List ClsC) (c f : Nat) : Bool := match clsAt cls c with
  | some cl => cl.flds.any fun g => Nat.beq g f
  | none => false
def sAugF (cls : List ClsC) (o : Ee) (f : Nat) (op : Bop) (e : Ee) (env : Env) (h : Hh) : R Fl := match o.run env h with
  | .ok ov h1 => match fldV f ov h1 with
    | .ok v h2 => match e.run env h2 with
      | .ok w h3 => match isInt v with
        | true => match bopV op v w h3 with
          | .ok z h4 => setFV (okF cls) ov f z h4 fun h5 => .ok (.nx env) h5
          | .no n => .no n
        | false => .no 153
      | .no n => .no n
    | .no n => .no n
  | .no n => .no n
def sSetI (o i e : Ee) (env : Env) (h : Hh) : R Fl := match e.run env h with
  | .ok v h1 => match o.run env h1 with
    | .ok ov h2 => match i.run env h2 with
      | .ok iv h3 => setIV ov iv v h3 fun h4 => .ok (.nx env) h4
      | .no n => .no n
    | .no n => .no n
  | .no n => .no n
def sSetF (cls : List ClsC) (o : Ee) (f : Nat) (e : Ee) (env : Env) (h : Hh) : R Fl := match e.run env h with
  | .ok v h1 => match o.run env h1 with
    | .ok ov h2 => setFV (okF cls) ov f v h2 fun h3 => .ok (.nx env) h3
    | .no n => .no n
  | .no n => .no n
def sExpr (e : Ee) (env : Env) (h : Hh) : R Fl := match e.run env h with
  | .ok _ h1 => .ok (.nx env) h1
  | .no n => .no n
def sRet (e : Ee) (env : Env) (h : Hh) : R Fl := match e.run env h with
  | .ok v h1 => .ok (.rt v) h1
  | .no n => .no n
def sPick (c : Et) (i : Nat) (a b : Ee) (env : Env) (h : Hh) : R Fl := match listAt env i with
  | some _ => match c.run env h with
    | .ok k h1 => match k with
      | true => sRet a (wipe1 env i) h1
      | false => sRet b (wipe1 env i) h1
    | .no n => .no n
  | none => .no 170
def sIf (c : Et) (a b : Es) (env : Env) (h : Hh) : R Fl := match c.run env h with
  | .ok k h1 => match k with
    | true => a.run env h1
    | false => b.run env h1
  | .no n => .no n
def sWhl (c : Et) (b : Es) : Nat → Env → Hh → R Fl
  | 0, _, _ => .no 143
  | d + 1, env, h => match c.run env h with
    | .ok k h1 => match k with
      | false => .ok (.nx env) h1
      | true => match toLp (b.run env h1) with
        | .ok r h2 => match r with
          | .nx e1 => sWhl c b d e1 h2
          | .br e1 => .ok (.nx e1) h2
          | .rt v => .ok (.rt v) h2
        | .no n => .no n
    | .no n => .no n
def forTurn (tg : Tg) (b : Es) (v : PV) (env : Env) (h : Hh) : R (Lp Env) := match stTg tg v env with
  | some e2 => toLp (b.run e2 h)
  | none => .no 154
def sFor0 (tg : Tg) (it : Ei) (b : Es) (env : Env) (h : Hh) : R Fl := ofLp (evIt it (forTurn tg b) env env h)
def sFor (tg : Tg) (it : Ei) (b : Es) (env : Env) (h : Hh) : R Fl := match it.run env h with
  | .ok w h1 => unl h w (sFor0 tg ⟨fun _ _ => .ok w h1⟩ b env h)
  | .no n => .no n
def sSeq (s : Es) (r : Es) (env : Env) (h : Hh) : R Fl := match s.run env h with
  | .ok f h1 => match f with
    | .nx e1 => r.run e1 h1
    | f => .ok f h1
  | .no n => .no n

/-! ### from code -/
section
variable (cls : List ClsC) (call : CallT)
/-- a comparison's, an operator's function -/
def denIt (f : C → Ee) (it : Iy) : Ei := match it with
  | .seq e => ⟨itSeq (f e)⟩
  | .range1 a => ⟨itRange1 (f a)⟩
  | .range2 a b => ⟨itRange2 (f a) (f b)⟩
  | .enum e => ⟨itEnum (f e)⟩
  | .zip a b s => ⟨itZip (f a) (f b) s⟩
  | .items e => ⟨itItems (f e)⟩
def denO (f : C → Ee) (c : Option C) : Option Ee := match c with
  | none => none
  | some c => some (f c)
structure Kn where
  e : C → Ee
  t : C → Et
def denE (k : Kn) (c : C) : Ee := match c with
  | .var i => ⟨eVar i⟩
  | .lit v => ⟨eLit v⟩
  | .tup es => ⟨eTup (es.map k.e)⟩
  | .lst es => ⟨eLst (es.map k.e)⟩
  | .dct ks vs => ⟨eDct ((ks.map k.e).zip (vs.map k.e))⟩
  | .bin op a b => ⟨e2 (bopV op) (k.e a) (k.e b)⟩
  | .neg a => ⟨e1 negV (k.e a)⟩
  | .not a => ⟨e1 notV (k.e a)⟩
  | .cmp op a b => ⟨e2 (copV op) (k.e a) (k.e b)⟩
  | .chain o1 o2 a b c => ⟨eChain (copV o1) (copV o2) (k.e a) (k.e b) (k.e c)⟩
  | .and a b => ⟨eAnd (k.e a) (k.e b)⟩
  | .or a b => ⟨eOr (k.e a) (k.e b)⟩
  | .ite t a b => ⟨eIte (k.t t) (k.e a) (k.e b)⟩
  | .ix a b => ⟨e2 ixV (k.e a) (k.e b)⟩
  | .sl a lo hi => ⟨eSl (k.e a) (denO k.e lo) (denO k.e hi)⟩
  | .rv a => ⟨e1 rvV (k.e a)⟩
  | .fld a f => ⟨e1 (fldV f) (k.e a)⟩
  | .call g es ar => ⟨eCall (call g) (es.map k.e) ar⟩
  | .callP g es ar => ⟨eCall (pureF (call g)) (es.map k.e) ar⟩
  | .omth m a es ar => ⟨eOmth cls call m (k.e a) (es.map k.e) ar⟩
  | .make c es ar => ⟨eMake cls call c (es.map k.e) ar⟩
  | .bi b es => ⟨eBi b (es.map k.e)⟩
  | .mt m a es => ⟨eMt m (k.e a) (es.map k.e)⟩
  | .isi a ks => ⟨e1 (isiV ks) (k.e a)⟩
  | .cix xs a => ⟨e1 (cixV xs) (k.e a)⟩
  | .lc own tg it ifs e => ⟨evLc own tg (denIt k.e it) (ifs.map k.t) (k.e e)⟩
  | .dc own tg it ifs x y => ⟨evDc own tg (denIt k.e it) (ifs.map k.t) (k.e x) (k.e y)⟩
  | .never n => ⟨fun _ _ => .no (1000 + n)⟩
def denT (k : Kn) (c : C) : Et := match c with
  | .and a b => ⟨tAnd (k.t a) (k.t b)⟩
  | .or a b => ⟨tOr (k.t a) (k.t b)⟩
  | .not a => ⟨tNot (k.t a)⟩
  | .ite t a b => ⟨tIte (k.t t) (k.t a) (k.t b)⟩
  | c => ⟨tVal (denE cls call k c)⟩
def kn : Nat → Kn
  | 0 => ⟨fun _ => ⟨fun _ _ => .no 200⟩, fun _ => ⟨fun _ _ => .no 200⟩⟩
  | n + 1 => ⟨denE cls call (kn n), denT cls call (kn n)⟩
def sNx : Es := ⟨fun env h => .ok (.nx env) h⟩
def denSs (f : S → Es) : List S → Es
  | [] => sNx
  | s :: r => ⟨sSeq (f s) (denSs f r)⟩
def denS (k : Kn) (f : List S → Es) (s : S) : Es := match s with
  | .asg tg e => ⟨sAsg tg (k.e e)⟩
  | .pick c i a b => ⟨sPick (k.t c) i (k.e a) (k.e b)⟩
  | .par is es => ⟨sPar is (es.map k.e)⟩
  | .aug i op e => ⟨sAug i op (k.e e)⟩
  | .augI o i op e => ⟨sAugI (k.e o) (k.e i) op (k.e e)⟩
  | .augF o q op e => ⟨sAugF cls (k.e o) q op (k.e e)⟩
  | .setI o i e => ⟨sSetI (k.e o) (k.e i) (k.e e)⟩
  | .setF o q e => ⟨sSetF cls (k.e o) q (k.e e)⟩
  | .expr e => ⟨sExpr (k.e e)⟩
  | .ret e => ⟨sRet (k.e e)⟩
  | .retN => ⟨fun _ h => .ok (.rt .non) h⟩
  | .iff c a b => ⟨sIf (k.t c) (f a) (f b)⟩
  | .whl c b => ⟨sWhl (k.t c) (f b) turnsMax⟩
  | .forr tg it b => ⟨sFor tg (denIt k.e it) (f b)⟩
  | .pass => sNx
  | .brk => ⟨fun env h => .ok (.bk env) h⟩
  | .cont => ⟨fun env h => .ok (.ct env) h⟩
  | .never n => ⟨fun _ _ => .no (2000 + n)⟩
def depthCode : Nat := 60
def ks : Nat → List S → Es
  | 0, _ => ⟨fun _ _ => .no 201⟩
  | n + 1, ss => denSs (denS cls (kn cls call depthCode) (ks n)) ss
end
def nones : Nat → Env
  | 0 => []
  | n + 1 => none :: nones n
def mkEnv : Nat → List PV → Env
  | 0, _ => []
  | n + 1, v :: vs => some v :: mkEnv n vs
  | n + 1, [] => none :: mkEnv n []
def endFn (r : R Fl) : R PV := match r with
  | .ok f h => match f with
    | .rt v => .ok v h
    | .nx _ => .ok .non h
    | _ => .no 201
  | .no n => .no n
def fnAt : List FnC → Nat → Option FnC
  | [], _ => none
  | c :: _, 0 => some c
  | _ :: r, n + 1 => fnAt r n
def depthStmt : Nat := 30
/-- what a function does -/
structure Ef where
  run : List PV → Hh → R PV
def denF (cls : List ClsC) (call : CallT) (f : Option FnC) : Ef := match f with
  | some fn => ⟨fun vs h => endFn ((ks cls call depthStmt fn.body).run (mkEnv fn.slots vs) h)⟩
  | none => ⟨fun _ _ => .no 203⟩
/-- a function's call, calls nested at most L deep -/
def run (P : PrC) : Nat → CallT
  | 0 => fun _ _ _ => .no 202
  | L + 1 => fun g => (denF P.cls (run P L) (fnAt P.fns g)).run
end
end Ev

set_option Elab.async false
set_option linter.all false
set_option maxRecDepth 100000
/-! Ev4: from the text to code. -/
namespace Ev
open PySem

structure FInfo where
  at_ : Str × Option Str
  ps : List Str
  dfl : List (Str × PV)
structure GI where
  fns : List FInfo
  /-- the classes: a name, what it has -/
  cls : List (Str × ClsC)
  flds : List Str
  cons : List (Str × PV)
  /-- the built-ins that are named -/
  blts : List Str
  /-- the ways in which functions are called: the function, how many values, which keywords -/
  cmb : List (Nat × Nat × List Str)
  /-- the functions that give data alone -/
  pur : List Nat

def findIx {α : Type} (p : α → Bool) : List α → Option Nat
  | [] => none
  | x :: xs => match p x with
    | true => some 0
    | false => match findIx p xs with
      | some i => some (i + 1)
      | none => none
def nameIx (N : List Str) (x : Str) : Option Nat := findIx (fun y => strEq y x) N
def kindIn (sc : Scope) (x : Str) : Option NameKind := sc.names.lookup x
def slotR (N : List Str) (sc : Scope) (x : Str) : Option Nat := match strEq x "__debug__" || strEq x "__classdict__" with
  | true => none
  | false => match kindIn sc x with
    | some .local => nameIx N x
    | some .cell => nameIx N x
    | some .free => nameIx N x
    | _ => none
def slotW (N : List Str) (sc : Scope) (x : Str) : Option Nat := match kindIn sc x with
  | some .local => nameIx N x
  | some .cell => nameIx N x
  | _ => none
def isGl (sc : Scope) (x : Str) : Bool := match kindIn sc x with
  | some .globalImplicit => true
  | _ => false
def lookS {α : Type} (x : Str) : List (Str × α) → Option α
  | [] => none
  | (y, v) :: r => match strEq y x with
    | true => some v
    | false => lookS x r
def bopOf : Operator → Option Bop
  | .Add => some .add
  | .Sub => some .sub
  | .Mult => some .mul
  | .FloorDiv => some .fdiv
  | .Mod => some .mod
  | .Pow => some .pow
  | _ => none
def copOf : CmpOp → Option Cop
  | .Eq => some .eq
  | .NotEq => some .ne
  | .Lt => some .lt
  | .LtE => some .le
  | .Gt => some .gt
  | .GtE => some .ge
  | .Is => some .isN
  | .IsNot => some .notN
  | .In => some .mem
  | .NotIn => some .nmem
def isStar : Expr → Bool
  | .Starred .. => true
  | _ => false
/-- no super() -/
def baseOk : Expr → Bool
  | .Call (.Name _ _) [] [] _ => false
  | _ => true
/-- a display by a loop -/
def isComp : Expr → Bool
  | .ListComp .. => true
  | .SetComp .. => true
  | .DictComp .. => true
  | _ => false
def isSlice : Expr → Bool
  | .Slice .. => true
  | _ => false
def anyStar : List Expr → Bool
  | [] => false
  | e :: es => match isStar e with
    | true => true
    | false => anyStar es
def foldAnd : List C → C
  | [] => .never 1
  | [a] => a
  | a :: b :: r => .and a (foldAnd (b :: r))
def foldOr : List C → C
  | [] => .never 1
  | [a] => a
  | a :: b :: r => .or a (foldOr (b :: r))
def kdOf (x : Str) : Option Kd :=
  match strEq x "int", strEq x "bool", strEq x "str", strEq x "tuple", strEq x "list", strEq x "dict" with
  | true, _, _, _, _, _ => some .int
  | _, true, _, _, _, _ => some .bool
  | _, _, true, _, _, _ => some .str
  | _, _, _, true, _, _ => some .tuple
  | _, _, _, _, true, _ => some .list
  | _, _, _, _, _, true => some .dict
  | _, _, _, _, _, _ => none
/-- is it a built-in here -/
def isBlt (G : GI) (sc : Scope) (x : Str) : Bool := isGl sc x && G.blts.any fun y => strEq y x
def mtOf (m : Str) (n : Nat) : Option Mt :=
  match n with
  | 0 => lookS m [("pop", Mt.pop)]
  | 1 => lookS m [("append", Mt.append), ("pop", .pop0), ("extend", .extend), ("get", .get1)]
  | 2 => lookS m [("get", Mt.get2), ("setdefault", .setdefault)]
  | _ => none
def biOf (x : Str) (n : Nat) : Option Bi :=
  match n with
  | 1 => lookS x [("len", Bi.len), ("abs", .abs), ("int", .int), ("list", .list), ("tuple", .tuple), ("sorted", .sorted), ("any", .any), ("all", .all), ("sum", .sum), ("max", .max1)]
  | 2 => lookS x [("min", Bi.min2), ("max", .max2)]
  | _ => none
/-- the parameters' places: p written ones, then the keywords -/
def arOf (dfl : List (Str × PV)) (p : Nat) (ks : List Str) : Nat → List Str → Option (List Ar)
  | _, [] => some []
  | j, x :: r => match arOf dfl p ks (j + 1) r with
    | none => none
    | some ar => match Nat.blt j p with
      | true => some (.a j :: ar)
      | false => match nameIx ks x with
        | some q => some (.a (p + q) :: ar)
        | none => match lookS x dfl with
          | some v => some (.d v :: ar)
          | none => none
def kwNames : List Keyword → Option (List Str)
  | [] => some []
  | ⟨some x, _, _⟩ :: r => match kwNames r with
    | some xs => some (x :: xs)
    | none => none
  | _ :: _ => none
def ownOf (N : List Str) : List (Str × NameKind) → List (Str × Nat)
  | [] => []
  | (x, k) :: r => match k with
    | .local => match nameIx N x with
      | some i => (x, i) :: ownOf N r
      | none => ownOf N r
    | .cell => match nameIx N x with
      | some i => (x, i) :: ownOf N r
      | none => ownOf N r
    | _ => ownOf N r
def setKindOk (sc : Scope) (x : Str) : Bool := match kindIn sc x with
  | some .local => true
  | _ => false
section
variable (G : GI) (N : List Str)
def compTg (sc : Scope) : Nat → Expr → Option Tg
  | 0, _ => none
  | d + 1, e => match e with
    | .Name x _ => match slotW N sc x with
      | some i => some (.var i)
      | none => none
    | .Tuple es _ _ => match compTgs (compTg sc d) es with
      | some ts => some (.tup ts)
      | none => none
    | _ => none
where
  compTgs (f : Expr → Option Tg) : List Expr → Option (List Tg)
    | [] => some []
    | e :: es => match f e with
      | some t => match compTgs f es with
        | some ts => some (t :: ts)
        | none => none
      | none => none
mutual
def slotsIn (own : List Nat) : Tg → Bool
  | .var i => own.any (Nat.beq i)
  | .tup ts => slotsInL own ts
def slotsInL (own : List Nat) : List Tg → Bool
  | [] => true
  | t :: ts => slotsIn own t && slotsInL own ts
end
def blkB (sc s2 : Scope) : Bool := L2.blkC N sc s2 (ownOf N s2.names)
/-- no set display -/
def iterOk : Expr → Bool
  | .Set .. => false
  | _ => true
/-- a comprehension's target: names of its own -/
def ownTg (sc s2 : Scope) (tg : Expr) : Option Tg := match compTg N (L2.relS s2 sc) 5 tg with
  | some t => match slotsIn ((ownOf N s2.names).map (·.2)) t with
    | true => some t
    | false => none
  | none => none
/-- what is walked, f: the parts' code -/
def isTupE : Expr → Bool
  | .Tuple .. => true
  | _ => false
/-- e.items(): of what -/
def itemsAt : Expr → Option Expr
  | .Call (.Attribute o m ap) [] [] p => match strEq m "items" && (baseOk o && (ap.endLine == p.line)) with
    | true => some o
    | false => none
  | _ => none
def isTrueK : List Keyword → Bool
  | [⟨some x, .Constant (.bool true) _ _, _⟩] => strEq x "strict"
  | _ => false
/-- what is walked by its name -/
inductive ItK where
  | r1 (a : Expr) | r2 (a b : Expr) | en (a : Expr) | zp (a b : Expr) (st : Bool) | no
def itKwK : List Keyword → Option Bool
  | [] => some false
  | k => match isTrueK k with
    | true => some true
    | false => none
def itK (x : Str) (tup : Bool) (args : List Expr) (kws : List Keyword) : ItK := match args with
  | [a] => match kws with
    | [] => match isStar a with
      | false => match strEq x "range" with
        | true => .r1 a
        | false => match strEq x "enumerate" && tup with
          | true => .en a
          | false => .no
      | true => .no
    | _ => .no
  | [a, b] => match isStar a || isStar b with
    | false => match strEq x "range" with
      | true => match kws with
        | [] => .r2 a b
        | _ => .no
      | false => match strEq x "zip" && tup with
        | true => match itKwK kws with
          | some st => .zp a b st
          | none => .no
        | false => .no
    | true => .no
  | _ => .no
def compIt (sc : Scope) (f : Expr → C) (tup : Bool) (e : Expr) : Iy := match e with
  | .Call (.Attribute o m ap) args kws p => match itemsAt (.Call (.Attribute o m ap) args kws p), tup with
    | some o, true => .items (f o)
    | _, _ => .seq (f e)
  | .Call (.Name x _) args kws _ => match isBlt G sc x with
    | true => match itK x tup args kws with
      | .r1 a => .range1 (f a)
      | .r2 a b => .range2 (f a) (f b)
      | .en a => .enum (f a)
      | .zp a b st => .zip (f a) (f b) st
      | .no => .seq (f e)
    | false => .seq (f e)
  | e => .seq (f e)
def strsEq : List Str → List Str → Bool
  | [], [] => true
  | x :: xs, y :: ys => strEq x y && strsEq xs ys
  | _, _ => false
def cmbIn (g n : Nat) (ks : List Str) : Bool := G.cmb.any fun q => Nat.beq q.1 g && (Nat.beq q.2.1 n && strsEq q.2.2 ks)
/-- an own class's call -/
def callMk (f : Expr → C) (x : Str) (args : List Expr) (kws : List Keyword) (ks : List Str) : C :=
  match findIx (fun q => strEq q.1 x) G.cls with
  | none => .never 12
  | some c => match G.cls[c]? with
    | none => .never 12
    | some q => match q.2.init with
      | none => .never 14
      | some g => match G.fns[g]? with
        | none => .never 14
        | some fi => match cmbIn G g (args.length + 1) ks with
          | false => .never 15
          | true => match arOf fi.dfl (args.length + 1) ks 0 fi.ps with
            | none => .never 13
            | some ar => .make c (args.map f ++ kws.map fun q => f q.value) ar
def callFn (f : Expr → C) (x : Str) (args : List Expr) (kws : List Keyword) (ks : List Str) : C :=
  match findIx (fun fi => strEq fi.at_.1 x && fi.at_.2.isNone) G.fns with
  | none => callMk G f x args kws ks
  | some g => match G.fns[g]? with
    | none => .never 12
    | some fi => match cmbIn G g args.length ks with
      | false => .never 11
      | true => match arOf fi.dfl args.length ks 0 fi.ps with
        | none => .never 13
        | some ar => match G.pur.any fun p => Nat.beq p g with
          | true => .callP g (args.map f ++ kws.map fun q => f q.value) ar
          | false => .call g (args.map f ++ kws.map fun q => f q.value) ar
/-- list(o.items()): of what -/
def itemsArg (x : Str) : List Expr → Option Expr
  | [a] => match strEq x "list" with
    | true => itemsAt a
    | false => none
  | _ => none
/-- list(range(a)): the a -/
def rangeArg (sc : Scope) (x : Str) : List Expr → Option Expr
  | [.Call (.Name y _) [a] [] _] => match strEq x "list" && (isBlt G sc y && (strEq y "range" && !isStar a)) with
    | true => some a
    | false => none
  | _ => none
def callBi (sc : Scope) (f : Expr → C) (x : Str) (args : List Expr) (kws : List Keyword) : C := match kws with
  | [] => match itemsArg x args with
    | some o => .bi .litems [f o]
    | none => match rangeArg G sc x args with
      | some a => .bi .lrange [f a]
      | none => match biOf x args.length with
        | some bi => .bi bi (args.map f)
        | none => .never 20
  | _ => .never 21
/-- a built-in kind by its name; a row of such -/
def kdAt (sc : Scope) : Expr → Option Kd
  | .Name x _ => match isBlt G sc x with
    | true => kdOf x
    | false => none
  | _ => none
def kdsAt (sc : Scope) : List Expr → Option (List Kd)
  | [] => some []
  | e :: es => match kdAt G sc e with
    | some k => match kdsAt sc es with
      | some ks => some (k :: ks)
      | none => none
    | none => none
/-- isinstance -/
def isiOf (sc : Scope) (f : Expr → C) (args : List Expr) (kws : List Keyword) : C := match args, kws with
  | [a, T], [] => match T with
    | .Tuple es _ _ => match kdsAt G sc es, Nat.ble es.length 1000 with
      | some ks, true => .isi (f a) ks
      | _, _ => .never 24
    | T => match kdAt G sc T with
      | some k => .isi (f a) [k]
      | none => .never 24
  | _, _ => .never 24
def callOf (sc : Scope) (f : Expr → C) (x : Str) (args : List Expr) (kws : List Keyword) : C :=
  match anyStar args with
  | true => .never 22
  | false => match isGl sc x with
    | false => .never 10
    | true => match G.blts.any (fun y => strEq y x) with
      | true => match strEq x "isinstance" with
        | true => isiOf G sc f args kws
        | false => callBi G sc f x args kws
      | false => match kwNames kws with
        | none => .never 23
        | some ks => callFn G f x args kws ks
def strsOf : List PV → Option (List Str)
  | [] => some []
  | .str x :: r => match strsOf r with
    | some xs => some (x :: xs)
    | none => none
  | _ :: _ => none
/-- X.index(..) of a constant row of texts -/
def cixOf (sc : Scope) (o : Expr) (m : Str) : Option (List Str) := match o with
  | .Name x _ => match strEq m "index" && isGl sc x with
    | true => match lookS x G.cons with
      | some (.tup xs) => strsOf xs
      | _ => none
    | false => none
  | _ => none
/-- is it a method of an own class: its number -/
def omIx (m : Str) : Option Nat := match nameIx G.flds m with
  | some i => match G.cls.any fun q => (natAt i q.2.mts).isSome with
    | true => some i
    | false => none
  | none => none
/-- the ways in which a method's call may go: the functions, their arguments -/
def altsOf (n : Nat) (ks : List Str) (i : Nat) : List (Str × ClsC) → List (Nat × List Ar)
  | [] => []
  | q :: r => match natAt i q.2.mts with
    | none => altsOf n ks i r
    | some g => match G.fns[g]? with
      | none => altsOf n ks i r
      | some fi => match cmbIn G g (n + 1) ks with
        | false => altsOf n ks i r
        | true => match arOf fi.dfl (n + 1) ks 0 fi.ps with
          | none => altsOf n ks i r
          | some ar => (g, ar) :: altsOf n ks i r
/-- a call of a method of lists and dicts -/
def mtCall (sc : Scope) (f : Expr → C) (o : Expr) (m : Str) (args : List Expr) (kws : List Keyword) : C := match kws with
  | _ :: _ => .never 34
  | [] => match cixOf G sc o m with
    | some xs => match args with
      | [a] => .cix xs (f a)
      | _ => .never 36
    | none => match mtOf m args.length with
      | some mt => .mt mt (f o) (args.map f)
      | none => .never 37
def methOf (sc : Scope) (f : Expr → C) (o : Expr) (m : Str) (args : List Expr) (kws : List Keyword) (ok : Bool) : C :=
  match ok && (baseOk o && Nat.blt (args.length + kws.length) 28) && !anyStar args with
  | false => .never 35
  | true => match omIx G m with
    | some i => match kwNames kws with
      | none => .never 34
      | some ks => .omth i (f o) (args.map f ++ kws.map fun q => f q.value) (altsOf G args.length ks i G.cls)
    | none => mtCall G sc f o m args kws
def litOf : Const → C
  | .none => .lit .non
  | .bool b => .lit (.bl b)
  | .int i => .lit (.int i)
  | .str x => .lit (.str x)
  | _ => .never 40
def compName (sc : Scope) (x : Str) : C := match slotR N sc x with
  | some i => .var i
  | none => match isGl sc x with
    | true => match lookS x G.cons with
      | some v => .lit v
      | none => .never 42
    | false => .never 43
inductive SlK where
  | ix | sl (lo hi : Option Expr) | rv | no
def isM1 : Expr → Bool
  | .UnaryOp .USub (.Constant (.int i) _ _) _ => intEq i 1
  | _ => false
def slK : Expr → SlK
  | .Slice lo hi st _ => match st with
    | none => .sl lo hi
    | some e => match isM1 e, lo, hi with
      | true, none, none => .rv
      | _, _, _ => .no
  | .Starred .. => .no
  | _ => .ix
def optC (f : Expr → C) : Option Expr → Option C
  | none => none
  | some e => some (f e)
def compE : Nat → Scope → Expr → C
  | 0, _, _ => .never 41
  | d + 1, sc, e => match e with
    | .Name x _ => compName G N sc x
    | .Constant c _ _ => litOf c
    | .Tuple es _ _ => match anyStar es || !Nat.ble es.length 1000 with
      | false => .tup (es.map (compE d sc))
      | true => .never 44
    | .List es _ => match anyStar es || !Nat.ble es.length 1000 with
      | false => .lst (es.map (compE d sc))
      | true => .never 45
    | .BinOp a op b _ => match bopOf op with
      | some o => .bin o (compE d sc a) (compE d sc b)
      | none => .never 46
    | .UnaryOp op a _ => match op with
      | .Not => .not (compE d sc a)
      | .USub => .neg (compE d sc a)
      | _ => .never 54
    | .BoolOp op es _ => match op with
      | .And => foldAnd (es.map (compE d sc))
      | .Or => foldOr (es.map (compE d sc))
    | .Compare a ops cs _ => match ops, cs with
      | [op], [b] => match copOf op, behindInMarks op b with
        | some o, false => .cmp o (compE d sc a) (compE d sc b)
        | _, _ => .never 47
      | [op, op'], [b, c] => match copOf op, copOf op', lastMarks [op, op'] [b, c] with
        | some o, some o', false => .chain o o' (compE d sc a) (compE d sc b) (compE d sc c)
        | _, _, _ => .never 47
      | _, _ => .never 47
    | .IfExp t a b _ => .ite (compE d sc t) (compE d sc a) (compE d sc b)
    | .Subscript a i _ => match slK i with
      | .ix => .ix (compE d sc a) (compE d sc i)
      | .rv => .rv (compE d sc a)
      | .sl lo hi => .sl (compE d sc a) (optC (compE d sc) lo) (optC (compE d sc) hi)
      | .no => .never 48
    | .Call fe args kws p => match fe with
      | .Name x _ => callOf G sc (compE d sc) x args kws
      | .Attribute o m ap => methOf G sc (compE d sc) o m args kws (ap.endLine == p.line)
      | _ => .never 55
    | .Attribute o x _ => match baseOk o, nameIx G.flds x with
      | true, some i => .fld (compE d sc o) i
      | _, _ => .never 56
    | .Dict ks vs _ => match Nat.ble ks.length 15 && (Nat.beq ks.length vs.length && ks.all (·.isSome)) with
      | true => .dct ((ks.filterMap id).map (compE d sc)) (vs.map (compE d sc))
      | false => .never 49
    | .DictComp kx vx gens s2 _ => match gens with
      | [⟨tg, iter, ifs, as⟩] => match ownTg N sc s2 tg, isZ as && (blkB N sc s2 && (Nat.ble ifs.length 1 && iterOk iter)) with
        | some t, true => .dc ((ownOf N s2.names).map (·.2)) t (compIt G sc (compE d sc) (isTupE tg) iter) (ifs.map (compE d (L2.relS s2 sc))) (compE d (L2.relS s2 sc) kx) (compE d (L2.relS s2 sc) vx)
        | _, _ => .never 51
      | _ => .never 51
    | .ListComp elt gens s2 _ => match gens with
      | [⟨tg, iter, ifs, as⟩] => match ownTg N sc s2 tg, isZ as && (blkB N sc s2 && (Nat.ble ifs.length 1 && iterOk iter)) with
        | some t, true => .lc ((ownOf N s2.names).map (·.2)) t (compIt G sc (compE d sc) (isTupE tg) iter) (ifs.map (compE d (L2.relS s2 sc))) (compE d (L2.relS s2 sc) elt)
        | _, _ => .never 50
      | _ => .never 50
    | _ => .never 53
/-- (a, b) = (x, y) of names: the places -/
def parOf (sc : Scope) (ts : List Expr) : Option (List Nat) := match ts with
  | [] => some []
  | .Name x _ :: r => match kindIn sc x with
    | some .local => match nameIx N x, parOf sc r with
      | some i, some is => some (i :: is)
      | _, _ => none
    | _ => none
  | _ :: _ => none
/-- the names of a row of targets that are locals on this line -/
def parNames (sc : Scope) (l : Nat) : List Expr → List Str
  | [] => []
  | .Name x p :: r => match setKindOk sc x && Nat.beq p.line l with
    | true => x :: parNames sc l r
    | false => parNames sc l r
  | _ :: r => parNames sc l r
/-- is such a row stored from the right (some true), from the left (some false), or not told (none) -/
def parHow (sc : Scope) (ts vs : List Expr) : Option Bool :=
  match Nat.beq ts.length 2 || Nat.beq ts.length 3, Nat.beq vs.length ts.length, anyStar vs with
  | true, true, false => match parNames sc ((ts.head?.map fun t => t.pos.line).getD 0) ts with
    | ns => match Nat.beq ns.length ts.length && Nat.beq ns.eraseDups.length ns.length with
      | false => some false
      | true => match vs.all (foldedForSure 8), vs.all (constantsAlone 8) with
        | true, _ => some false
        | false, true => none
        | false, false => some true
  | _, _, _ => some false
def compAsg (sc : Scope) (ex : Expr → C) (t e : Expr) : S := match t with
  | .Name x _ => match slotW N sc x with
    | some i => .asg (.var i) (ex e)
    | none => .never 60
  | .Tuple ts k p => match e with
    | .Tuple vs _ _ => match parHow sc ts vs with
      | some true => match parOf N sc ts with
        | some is => match anyStar vs with
          | false => .par is (vs.map ex)
          | true => .never 61
        | none => .never 61
      | some false => match compTg N sc 5 (.Tuple ts k p) with
        | some t => .asg t (ex e)
        | none => .never 61
      | none => .never 61
    | e => match compTg N sc 5 (.Tuple ts k p) with
      | some t => .asg t (ex e)
      | none => .never 62
  | .Subscript o i _ => match isSlice i || isStar i || isComp e with
    | false => .setI (ex o) (ex i) (ex e)
    | true => .never 63
  | .Attribute o x _ => match isComp e, nameIx G.flds x with
    | false, some i => .setF (ex o) i (ex e)
    | _, _ => .never 64
  | _ => .never 64
def compAug (sc : Scope) (ex : Expr → C) (t : Expr) (op : Operator) (e : Expr) : S := match t with
  | .Name x _ => match slotW N sc x, bopOf op with
    | some i, some o => .aug i o (ex e)
    | _, _ => .never 65
  | _ => .never 66
def isDoc : Expr → Bool
  | .Constant (.str _) _ _ => true
  | _ => false
def compSt (sc : Scope) (ex : Expr → C) (f : List Stmt → List S) (s : Stmt) : S := match s with
  | .Assign ts e _ => match ts with
    | [t] => compAsg G N sc ex t e
    | _ => .never 59
  | .AugAssign t op e _ => compAug N sc ex t op e
  | .Expr e _ => match isDoc e, isComp e with
    | true, _ => .pass
    | false, false => .expr (ex e)
    | false, true => .never 58
  | .Return v _ => match v with
    | some e => .ret (ex e)
    | none => .retN
  | .If c a b _ => .iff (ex c) (f a) (f b)
  | .While c b el _ => match el with
    | [] => .whl (ex c) (f b)
    | _ => .never 67
  | .For tg it b el _ => match el with
    | [] => match compTg N sc 5 tg, iterOk it with
      | some t, true => .forr t (compIt G sc ex (isTupE tg) it) (f b)
      | _, _ => .never 68
    | _ => .never 68
  | .Pass _ => .pass
  | .Break _ => .brk
  | .Continue _ => .cont
  | _ => .never 69
def depthText : Nat := 50
/-- a call of a function by another name -/
def fnCode (f : Expr → C) (x : Str) (args : List Expr) : Option C :=
  match findIx (fun fi => strEq fi.at_.1 x && fi.at_.2.isNone) G.fns with
  | none => none
  | some g => match G.fns[g]? with
    | none => none
    | some fi => match cmbIn G g args.length [] with
      | false => none
      | true => match arOf fi.dfl args.length [] 0 fi.ps with
        | none => none
        | some ar => some (.call g (args.map f) ar)
/-- name = f if c else g; return name(..) -/
def pickOf (sc : Scope) (f : Expr → C) (s : Stmt) (r : List Stmt) : Option S := match s, r with
  | .Assign [.Name c _] (.IfExp t (.Name x _) (.Name y _) _) _, [.Return (some (.Call (.Name c' _) (a0 :: args) [] _)) _] =>
    match strEq c c' && (isGl sc x && (isGl sc y && !anyStar (a0 :: args))), slotR N sc c, slotW N sc c with
    | true, some i', some i => match Nat.beq i i', fnCode G f x (a0 :: args), fnCode G f y (a0 :: args) with
      | true, some a, some b => some (.pick (f t) i a b)
      | _, _, _ => none
    | _, _, _ => none
  | _, _ => none
def compSL (sc : Scope) (f : Expr → C) (g : Stmt → S) : List Stmt → List S
  | [] => []
  | s :: r => match pickOf G N sc f s r with
    | some p => [p]
    | none => g s :: compSL sc f g r
def compSs : Nat → Scope → List Stmt → List S
  | 0, _, _ => [.never 70]
  | d + 1, sc, ss => compSL G N sc (compE G N depthText sc) (compSt G N sc (compE G N depthText sc) (compSs d sc)) ss
end
end Ev

set_option Elab.async false
set_option linter.all false
set_option maxRecDepth 100000
/-! EvD0: dicts: keys, hashes, entries; what stands for a dict in the layer. -/
namespace Ev
open PySem PySem.Spec PyProof.Rows L2

/-! ### keys -/
mutual
def nk : PV → NestedKey
  | .non => .none
  | .bl b => .num (b2n b)
  | .int i => .num i
  | .str x => .text x
  | .tup xs => .tup (nks xs)
  | .fro _ => .none
  | .ref _ => .none
def nks : List PV → List NestedKey
  | [] => []
  | x :: xs => nk x :: nks xs
end
theorem allPc {f : PV → Bool} {x : PV} {xs : List PV} (h : allP f (x :: xs) = true) : f x = true ∧ allP f xs = true := by
  have h : (match f x with
    | true => allP f xs
    | false => false) = true := h
  cases z : f x with
  | false => rw [z] at h; cases h
  | true => rw [z] at h; exact ⟨rfl, h⟩
theorem eqs_nk {d : Nat} (ih : ∀ a b, pureV d a = true → pureV d b = true → keq d a b = NestedKey.beq (nk a) (nk b)) : ∀ xs ys : List PV, allP (pureV d) xs = true → allP (pureV d) ys = true → eqs (keq d) xs ys = NestedKey.beqAll (nks xs) (nks ys)
  | [], [], _, _ => rfl
  | [], _ :: _, _, _ => rfl
  | _ :: _, [], _, _ => rfl
  | x :: xs, y :: ys, h1, h2 => by
    obtain ⟨a1, a2⟩ := allPc h1
    obtain ⟨b1, b2⟩ := allPc h2
    show (match keq d x y with
      | true => eqs (keq d) xs ys
      | false => false) = (NestedKey.beq (nk x) (nk y) && NestedKey.beqAll (nks xs) (nks ys))
    rw [ih x y a1 b1, eqs_nk ih xs ys a2 b2]
    cases NestedKey.beq (nk x) (nk y) <;> rfl
theorem keq_nk : ∀ (d : Nat) (a b : PV), pureV d a = true → pureV d b = true → keq d a b = NestedKey.beq (nk a) (nk b)
  | 0, _, _, h, _ => by cases h
  | d + 1, a, b, h1, h2 => by
    cases a with
    | tup xs =>
      cases b with
      | tup ys => exact eqs_nk (keq_nk d) xs ys h1 h2
      | ref n => cases h2
      | fro ys => cases h2
      | _ => rfl
    | ref n => cases h1
    | fro xs => cases h1
    | int i =>
      cases b with
      | int j => exact intEq_eq i j
      | bl y => exact intEq_eq i (b2n y)
      | ref n => cases h2
      | fro ys => cases h2
      | _ => rfl
    | str x =>
      cases b with
      | str y => exact strF_eq x y
      | ref n => cases h2
      | fro ys => cases h2
      | _ => rfl
    | bl x =>
      cases b with
      | bl y => cases x <;> cases y <;> rfl
      | int j => exact intEq_eq (b2n x) j
      | ref n => cases h2
      | fro ys => cases h2
      | _ => rfl
    | non =>
      cases b with
      | ref n => cases h2
      | fro ys => cases h2
      | _ => rfl
theorem intEq_of {i j : Int} (h : intEq i j = true) : i = j := by rw [intEq_eq] at h; exact of_decide_eq_true h
theorem hashL_eq {f g : PV → PV → Bool} {u : PV → Nat} (ih : ∀ a b, f a b = true → u a = u b) : ∀ {xs ys : List PV} {acc : Nat}, eqs f xs ys = true → hashL u acc xs = hashL u acc ys
  | [], [], _, _ => rfl
  | [], _ :: _, _, h => by cases h
  | _ :: _, [], _, h => by cases h
  | x :: xs, y :: ys, acc, h => by
    have h : (match f x y with
      | true => eqs f xs ys
      | false => false) = true := h
    cases z : f x y with
    | false => rw [z] at h; cases h
    | true =>
      rw [z] at h
      show frN (acc * 31 + u x) (fun a => hashL u a xs) = frN (acc * 31 + u y) (fun a => hashL u a ys)
      rw [frN_eq, frN_eq, ih x y z]
      exact hashL_eq (f := f) (g := g) ih h
theorem hash_keq : ∀ (d e : Nat) (a b : PV), keq d a b = true → hashV e a = hashV e b
  | 0, _, _, _, h => by cases h
  | d + 1, 0, a, b, h => rfl
  | d + 1, e + 1, a, b, h => by
    cases a with
    | tup xs =>
      cases b with
      | tup ys => exact hashL_eq (f := keq d) (g := keq d) (hash_keq d e) h
      | _ => cases h
    | int i =>
      cases b with
      | int j => show hashI i = hashI j; rw [intEq_of h]
      | bl y => show hashI i = hashI (b2n y); rw [intEq_of h]
      | _ => cases h
    | str x =>
      cases b with
      | str y =>
        have e : x = y := by
          have h : strF x y = true := h
          rw [strF_eq] at h
          exact of_decide_eq_true h
        rw [e]
      | _ => cases h
    | bl x =>
      cases b with
      | bl y => cases x <;> cases y <;> first | rfl | cases h
      | int j => show hashI (b2n x) = hashI j; rw [intEq_of h]
      | _ => cases h
    | non =>
      cases b with
      | non => rfl
      | _ => cases h
    | _ => cases h
theorem hsK_keq {a b : PV} (h : keq 8 a b = true) : hsK a = hsK b := by
  unfold hsK
  rw [hash_keq 8 9 a b h]
theorem depths_le {d : Nat} (ih : ∀ v, pureV d v = true → (nk v).depth ≤ d) : ∀ xs : List PV, allP (pureV d) xs = true → NestedKey.depthAll (nks xs) ≤ d
  | [], _ => Nat.zero_le _
  | x :: xs, h => by
    obtain ⟨a1, a2⟩ := allPc h
    exact Nat.max_le.mpr ⟨ih x a1, depths_le ih xs a2⟩
theorem nk_depth : ∀ (d : Nat) (v : PV), pureV d v = true → (nk v).depth ≤ d
  | 0, _, h => by cases h
  | d + 1, v, h => by
    cases v with
    | tup xs => exact Nat.succ_le_succ (depths_le (nk_depth d) xs h)
    | ref n => cases h
    | fro xs => cases h
    | _ => exact Nat.zero_le _

/-! ### entries -/
/-- what a list of entries holds at a key -/
noncomputable def AK (k : PV) : Bool := match k with
  | .tup _ => pureV 8 k
  | .int _ => true
  | .str _ => true
  | _ => false
theorem ak_pure {k : PV} (h : AK k = true) : pureV 8 k = true := by
  cases k <;> first | exact h | rfl | cases h
theorem keq_ak {a b : PV} (h1 : AK a = true) (h2 : AK b = true) : keq 8 a b = decide (nk a = nk b) := by
  rw [NestedKey.decide_eq]
  exact keq_nk 8 a b (ak_pure h1) (ak_pure h2)
/-- a dict holds just the entries kvs -/
structure DR (d : Dd) (kvs : List (PV × PV)) : Prop where
  n : d.n = kvs.length
  ks : d.ks.reverse = kvs.map (·.1)
  bk : ∀ c, d.bkt c = kvs.filter fun q => Nat.beq (hsK q.1) c
  ok : ∀ q ∈ kvs, AK q.1 = true
  nd : (kvs.map fun q => nk q.1).Nodup
theorem lookK_cons {k : PV} {q : PV × PV} {r : List (PV × PV)} : lookK k (q :: r) = match keq 8 q.1 k with
    | true => some q.2
    | false => lookK k r := rfl
/-- only entries of the key's hash count -/
theorem lookK_filter {k : PV} : ∀ kvs : List (PV × PV), lookK k (kvs.filter fun q => Nat.beq (hsK q.1) (hsK k)) = lookK k kvs
  | [] => rfl
  | q :: r => by
    have ih := lookK_filter (k := k) r
    rw [lookK_cons]
    cases z : keq 8 q.1 k with
    | true =>
      have e : Nat.beq (hsK q.1) (hsK k) = true := by rw [hsK_keq z]; exact Nat.beq_refl _
      rw [List.filter_cons_of_pos (by simpa using e), lookK_cons, z]
    | false =>
      cases e : Nat.beq (hsK q.1) (hsK k) with
      | true => rw [List.filter_cons_of_pos (by simpa using e), lookK_cons, z]; exact ih
      | false => rw [List.filter_cons_of_neg (by simp [e])]; exact ih
theorem DR.look {d : Dd} {kvs : List (PV × PV)} (r : DR d kvs) (k : PV) : d.look k = lookK k kvs := by
  unfold Dd.look
  rw [frN_eq, r.bk, lookK_filter]
theorem putK_cons {k v : PV} {q : PV × PV} {r : List (PV × PV)} : putK k v (q :: r) = match keq 8 q.1 k with
    | true => (q.1, v) :: r
    | false => q :: putK k v r := rfl
theorem putK_new {k v : PV} : ∀ {kvs : List (PV × PV)}, lookK k kvs = none → putK k v kvs = kvs ++ [(k, v)]
  | [], _ => rfl
  | q :: r, h => by
    rw [lookK_cons] at h
    rw [putK_cons]
    cases z : keq 8 q.1 k with
    | true => rw [z] at h; cases h
    | false =>
      rw [z] at h
      simp only []
      rw [putK_new h]
      rfl
theorem putK_keys {k v : PV} : ∀ {kvs : List (PV × PV)} {w : PV}, lookK k kvs = some w → (putK k v kvs).map (·.1) = kvs.map (·.1)
  | [], _, h => by cases h
  | q :: r, w, h => by
    rw [lookK_cons] at h
    rw [putK_cons]
    cases z : keq 8 q.1 k with
    | true => rfl
    | false =>
      rw [z] at h
      simp only []
      rw [List.map_cons, List.map_cons, putK_keys h]
theorem putK_filter {k v : PV} : ∀ kvs : List (PV × PV), putK k v (kvs.filter fun q => Nat.beq (hsK q.1) (hsK k)) = (putK k v kvs).filter fun q => Nat.beq (hsK q.1) (hsK k)
  | [] => by
    show [(k, v)] = List.filter _ [(k, v)]
    rw [List.filter_cons_of_pos (by simp [Nat.beq_refl])]
    rfl
  | q :: r => by
    have ih := putK_filter (k := k) (v := v) r
    rw [putK_cons]
    cases z : keq 8 q.1 k with
    | true =>
      have e : Nat.beq (hsK q.1) (hsK k) = true := by rw [hsK_keq z]; exact Nat.beq_refl _
      rw [List.filter_cons_of_pos (by simpa using e), putK_cons, z]
      simp only []
      rw [List.filter_cons_of_pos (by simpa using e)]
    | false =>
      simp only []
      cases e : Nat.beq (hsK q.1) (hsK k) with
      | true => rw [List.filter_cons_of_pos (by simpa using e), List.filter_cons_of_pos (by simpa using e), putK_cons, z]; simp only []; rw [ih]
      | false => rw [List.filter_cons_of_neg (by simp [e]), List.filter_cons_of_neg (by simp [e])]; exact ih
theorem beqN_ne {a b : Nat} (h : a ≠ b) : Nat.beq a b = false := by
  cases e : Nat.beq a b with
  | false => rfl
  | true => exact absurd (Nat.eq_of_beq_eq_true e) h
/-- another hash: the same entries -/
theorem putK_other {k v : PV} {c : Nat} (hc : c ≠ hsK k) : ∀ kvs : List (PV × PV), ((putK k v kvs).filter fun q => Nat.beq (hsK q.1) c) = kvs.filter fun q => Nat.beq (hsK q.1) c
  | [] => by
    show List.filter _ [(k, v)] = []
    have : Nat.beq (hsK k) c = false := beqN_ne (Ne.symm hc)
    rw [List.filter_cons_of_neg (by simp [this])]
    rfl
  | q :: r => by
    have ih := putK_other (v := v) hc r
    rw [putK_cons]
    cases z : keq 8 q.1 k with
    | true =>
      have e : Nat.beq (hsK q.1) c = false := by rw [hsK_keq z]; exact beqN_ne (Ne.symm hc)
      simp only []
      rw [List.filter_cons_of_neg (by simp [e]), List.filter_cons_of_neg (by simp [e])]
    | false =>
      simp only []
      rw [List.filter_cons, List.filter_cons, ih]
theorem putK_mem {k v : PV} : ∀ {kvs : List (PV × PV)} {q : PV × PV}, q ∈ putK k v kvs → q.1 = k ∨ ∃ w, (q.1, w) ∈ kvs
  | [], q, h => by
    have h : q ∈ [(k, v)] := h
    rw [List.mem_singleton] at h
    exact .inl (by rw [h])
  | p :: r, q, h => by
    rw [putK_cons] at h
    cases z : keq 8 p.1 k with
    | true =>
      rw [z] at h
      rcases List.mem_cons.mp h with e | h
      · exact .inr ⟨p.2, by rw [e]; exact List.mem_cons_self ..⟩
      · exact .inr ⟨q.2, List.mem_cons_of_mem _ h⟩
    | false =>
      rw [z] at h
      rcases List.mem_cons.mp h with e | h
      · exact .inr ⟨p.2, by rw [e]; exact List.mem_cons_self ..⟩
      · rcases putK_mem h with e | ⟨w, h⟩
        · exact .inl e
        · exact .inr ⟨w, List.mem_cons_of_mem _ h⟩
theorem lookK_none {k : PV} (hk : AK k = true) : ∀ {kvs : List (PV × PV)}, (∀ q ∈ kvs, AK q.1 = true) → lookK k kvs = none → nk k ∉ kvs.map fun q => nk q.1
  | [], _, _ => by simp
  | q :: r, ok, h => by
    rw [lookK_cons] at h
    have a1 := ok q (List.mem_cons_self ..)
    cases z : keq 8 q.1 k with
    | true => rw [z] at h; cases h
    | false =>
      rw [z] at h
      rw [keq_ak a1 hk] at z
      have ih := lookK_none hk (fun p hp => ok p (List.mem_cons_of_mem _ hp)) h
      rw [List.map_cons, List.mem_cons]
      rintro (e | e)
      · exact of_decide_eq_false z e.symm
      · exact ih e
theorem bkt_put {t : T (List (PV × PV))} {c c' : Nat} {b : List (PV × PV)} {k : Bool} {n : Nat} {ks : List PV} (hc : c < 1024) : (Dd.mk k n ks (t.put 40 c b)).bkt c' = if c' = c then b else (Dd.mk k n ks t).bkt c' := by
  unfold Dd.bkt
  show (match (t.put 40 c b).get c' with
    | some b => b
    | none => []) = _
  rw [T.get_put 40 t c c' b (by omega)]
  by_cases e : c' = c
  · rw [if_pos e, if_pos e]
  · rw [if_neg e, if_neg e]
    try rfl
theorem hsK_lt (k : PV) : hsK k < 1024 := Nat.mod_lt _ (by decide)
theorem DR.put {d : Dd} {kvs : List (PV × PV)} (r : DR d kvs) {k v : PV} (hk : AK k = true) : DR (d.put k v) (putK k v kvs) := by
  have hl := r.bk (hsK k)
  have bb : ∀ c, (if c = hsK k then putK k v (d.bkt (hsK k)) else d.bkt c) = (putK k v kvs).filter fun q => Nat.beq (hsK q.1) c := by
    intro c
    by_cases e : c = hsK k
    · rw [if_pos e, e, hl, putK_filter]
    · rw [if_neg e, r.bk c, putK_other e]
  have okp : ∀ q ∈ putK k v kvs, AK q.1 = true := fun q hq => by
    rcases putK_mem hq with e | ⟨w, h⟩
    · rw [e]; exact hk
    · exact r.ok (q.1, w) h
  unfold Dd.put
  rw [frN_eq, hl, lookK_filter]
  cases z : lookK k kvs with
  | some w =>
    simp only []
    refine ⟨?_, ?_, fun c => ?_, okp, ?_⟩
    · have := congrArg List.length (putK_keys (v := v) z)
      rw [List.length_map, List.length_map] at this
      rw [this]; exact r.n
    · rw [putK_keys z]; exact r.ks
    · rw [← hl, bkt_put (hsK_lt k), ← bb c]
    · have e : (putK k v kvs).map (fun q => nk q.1) = kvs.map fun q => nk q.1 := by
        have := congrArg (List.map nk) (putK_keys (v := v) z)
        rw [List.map_map, List.map_map] at this
        exact this
      rw [e]; exact r.nd
  | none =>
    simp only []
    rw [frN_eq]
    have e := putK_new (v := v) z
    refine ⟨?_, ?_, fun c => ?_, okp, ?_⟩
    · show d.n + 1 = _
      rw [e, List.length_append, r.n]; rfl
    · show (k :: d.ks).reverse = _
      rw [List.reverse_cons, r.ks, e, List.map_append]; rfl
    · rw [← hl, bkt_put (hsK_lt k), ← bb c]
      rfl
    · rw [e, List.map_append, List.nodup_append]
      refine ⟨r.nd, by simp, fun a ha b hb => ?_⟩
      have hb : b = nk k := by simpa using hb
      subst hb
      rintro rfl
      exact lookK_none hk r.ok z ha
theorem DR.nil : DR Dd.nil [] := ⟨rfl, rfl, fun c => by show (match (T.leaf : T (List (PV × PV))).get c with | some b => b | none => []) = []; rw [T.get_leaf], fun q h => (by cases h), (by simp)⟩
theorem lookK_mem {k v : PV} (hk : AK k = true) : ∀ {kvs : List (PV × PV)}, (∀ q ∈ kvs, AK q.1 = true) → (kvs.map fun q => nk q.1).Nodup → (k, v) ∈ kvs → lookK k kvs = some v
  | [], _, _, h => by cases h
  | q :: r, ok, nd, h => by
    rw [List.map_cons, List.nodup_cons] at nd
    rw [lookK_cons, keq_ak (ok q (List.mem_cons_self ..)) hk]
    rcases List.mem_cons.mp h with e | h
    · rw [← e]
      simp
    · have ne : nk q.1 ≠ nk k := fun e => nd.1 (by rw [e]; exact List.mem_map.mpr ⟨(k, v), h, rfl⟩)
      rw [decide_eq_false ne]
      exact lookK_mem hk (fun p hp => ok p (List.mem_cons_of_mem _ hp)) nd.2 h
theorem DR.ents {d : Dd} {kvs : List (PV × PV)} (r : DR d kvs) : ∀ (l acc : List (PV × PV)), (∀ q ∈ l, q ∈ kvs) → d.ents (l.map (·.1)) acc = l.reverse ++ acc
  | [], acc, _ => rfl
  | q :: l, acc, h => by
    have hq := h q (List.mem_cons_self ..)
    have e : d.look q.1 = some q.2 := by rw [r.look]; exact lookK_mem (r.ok q hq) r.ok r.nd hq
    show (match d.look q.1 with
      | some v => Dd.ents d (l.map Prod.fst) ((q.1, v) :: acc)
      | none => Dd.ents d (l.map Prod.fst) acc) = _
    rw [e]
    simp only []
    rw [DR.ents r l ((q.1, q.2) :: acc) fun p hp => h p (List.mem_cons_of_mem _ hp)]
    simp
theorem DR.kvs {d : Dd} {kvs : List (PV × PV)} (r : DR d kvs) : d.kvs = kvs := by
  have e : d.ks = (kvs.reverse).map (·.1) := by
    rw [List.map_reverse, ← r.ks, List.reverse_reverse]
  unfold Dd.kvs
  rw [e, DR.ents r kvs.reverse [] fun q h => List.mem_reverse.mp h]
  simp

/-! ### what stands for a dict in the layer -/
def entN (w : World) (x : NestedKey × Addr × Value) : DictEntry := ⟨x.1.hash w, .ref x.2.1, x.2.2⟩
theorem entN_eq {P : Program} {w : World} : entryOfKey (nestedKind P w) = entN w := rfl
abbrev KX : List (NestedKey × Addr × V) → List (NestedKey × Addr × Value) → Prop := Paired fun p q => p.1 = q.1 ∧ p.2.1 = q.2.1 ∧ RelV p.2.2 q.2.2
/-- a dict whose keys are (nested) tuples -/
def XN (w : World) (a : Addr) (xs : List (NestedKey × Addr × V)) : HO := .ext fun h => xs.length ≤ sizeLine ∧ (a == sysModules) = false ∧
  ∃ ys, KX xs ys ∧ ∃ o es ep, h.get? a = some o ∧ o.ExactDict ∧ o.data = .dict es ep ∧ es.toList = ys.map (entN w) ∧ (ys.map (·.1)).Nodup
/-- a leaf key's value -/
def kP : Key → PV
  | .inl i => .int i
  | .inr x => .str x
end Ev

set_option Elab.async false
set_option linter.all false
set_option maxRecDepth 100000
/-! Ev5: what the evaluator's values and heap stand for in the layer; the judgements. -/
namespace Ev
open PySem PySem.Spec PyProof.Rows L2

/-- a list that nobody changes -/
def SqF (K : PySem.W.Frag) (H : Hp) (a : Addr) (xs : List V) : Prop :=
  (∃ o, H a = some (.frz o (.lst xs))) ∨
    ∃ (o : Obj) (its : Array Value) (n : Nat), K.lookup a = some o ∧ o.cls = .type "list" ∧ o.dict = none ∧ o.data = .seq its n ∧ its.size ≤ sizeLine ∧ Vals xs its.toList
theorem SqF.sql {K : PySem.W.Frag} {H : Hp} {a : Addr} {xs : List V} (h : SqF K H a xs) : SqL K H a xs := by
  rcases h with ⟨o, h⟩ | h
  · exact .inl (.inr ⟨o, h⟩)
  · exact .inr h

/-- the fields' names by number -/
structure Nm where
  f : Nat → Str
  n : Nat
  inj : ∀ i j, i < n → j < n → f i = f j → i = j
  w : World
mutual
inductive VR (K : PySem.W.Frag) (m : List Addr) (H : Hp) : PV → V → Prop
  | non : VR K m H .non .non
  | bl (b : Bool) : VR K m H (.bl b) (.bl b)
  | int (i : Int) : VR K m H (.int i) (.int i)
  | str (x : Str) : VR K m H (.str x) (.str x)
  | tup {xs : List PV} {a : Addr} {vs : List V} : SqT K H a vs → VRs K m H xs vs → VR K m H (.tup xs) (.ref a)
  | fro {xs : List PV} {a : Addr} {vs : List V} : SqF K H a vs → VRs K m H xs vs → VR K m H (.fro xs) (.ref a)
  | ref {n : Nat} {a : Addr} : m[n]? = some a → VR K m H (.ref n) (.ref a)
inductive VRs (K : PySem.W.Frag) (m : List Addr) (H : Hp) : List PV → List V → Prop
  | nil : VRs K m H [] []
  | cons {p : PV} {ps : List PV} {v : V} {vs : List V} : VR K m H p v → VRs K m H ps vs → VRs K m H (p :: ps) (v :: vs)
end

/-- the heap has grown: what is not numbered stays as it is, tuples and what is locked too; more numbers are told, of new things -/
structure Grow (m : List Addr) (H : Hp) (m' : List Addr) (H' : Hp) : Prop where
  pre : ∃ r, m' = m ++ r ∧ ∀ a ∈ r, H a = none
  tups : ∀ a xs, H a = some (.tup xs) → H' a = some (.tup xs)
  frzs : ∀ a o u, H a = some (.frz o u) → H' a = some (.frz o u)
  kept : ∀ a, H a ≠ none → H' a ≠ none
  out : ∀ a o, H a = some o → a ∉ m → H' a = some o
theorem Grow.refl (m : List Addr) (H : Hp) : Grow m H m H := ⟨⟨[], by simp, fun _ z => by cases z⟩, fun _ _ h => h, fun _ _ _ h => h, fun _ h => h, fun _ _ h _ => h⟩
theorem Grow.notin {m m' : List Addr} {H H' : Hp} (g : Grow m H m' H') {a : Addr} (h : H a ≠ none) (hm : a ∉ m) : a ∉ m' := by
  obtain ⟨r, e, f⟩ := g.pre
  rw [e]
  intro z
  rcases List.mem_append.mp z with z | z
  · exact hm z
  · exact h (f a z)
theorem Grow.trans {m m1 m2 : List Addr} {H H1 H2 : Hp} (a : Grow m H m1 H1) (b : Grow m1 H1 m2 H2) : Grow m H m2 H2 := by
  obtain ⟨r, e, f⟩ := id a.pre
  obtain ⟨r', e', f'⟩ := id b.pre
  refine ⟨⟨r ++ r', by rw [e', e, List.append_assoc], fun c hc => ?_⟩, fun c xs h => b.tups c xs (a.tups c xs h), fun c o u h => b.frzs c o u (a.frzs c o u h), fun c h => b.kept c (a.kept c h), fun c o h hm => b.out c o (a.out c o h hm) (a.notin (by rw [h]; simp) hm)⟩
  rcases List.mem_append.mp hc with z | z
  · exact f c z
  · have h1 := f' c z
    cases q : H c with
    | none => rfl
    | some o => exact absurd h1 (a.kept c (by rw [q]; simp))
/-- as much of it as values need -/
structure Gro (m : List Addr) (H : Hp) (m' : List Addr) (H' : Hp) : Prop where
  at' : ∀ (n : Nat) a, m[n]? = some a → m'[n]? = some a
  tups : ∀ a xs, H a = some (.tup xs) → H' a = some (.tup xs)
  frzs : ∀ a o u, H a = some (.frz o u) → H' a = some (.frz o u)
theorem Grow.at {m m' : List Addr} {H H' : Hp} (g : Grow m H m' H') {n : Nat} {a : Addr} (h : m[n]? = some a) : m'[n]? = some a := by
  obtain ⟨r, e, _⟩ := g.pre
  rw [e, List.getElem?_append_left (List.getElem?_eq_some_iff.mp h).1]
  exact h
theorem Grow.o {m m' : List Addr} {H H' : Hp} (g : Grow m H m' H') : Gro m H m' H' := ⟨fun _ _ h => g.at h, g.tups, g.frzs⟩
theorem Gro.at {m m' : List Addr} {H H' : Hp} (g : Gro m H m' H') {n : Nat} {a : Addr} (h : m[n]? = some a) : m'[n]? = some a := g.at' n a h
theorem Gro.trans {m m1 m2 : List Addr} {H H1 H2 : Hp} (a : Gro m H m1 H1) (b : Gro m1 H1 m2 H2) : Gro m H m2 H2 :=
  ⟨fun n c h => b.at (a.at h), fun c xs h => b.tups c xs (a.tups c xs h), fun c o u h => b.frzs c o u (a.frzs c o u h)⟩
/-- what values need -/
structure Grv (m : List Addr) (H : Hp) (m' : List Addr) (H' : Hp) : Prop where
  at' : ∀ (n : Nat) a, m[n]? = some a → m'[n]? = some a
  tups : ∀ a xs, H a = some (.tup xs) → H' a = some (.tup xs)
  frt : ∀ a o xs, H a = some (.frz o (.tup xs)) → H' a = some (.frz o (.tup xs))
  frl : ∀ a o xs, H a = some (.frz o (.lst xs)) → H' a = some (.frz o (.lst xs))
theorem Gro.v {m m' : List Addr} {H H' : Hp} (g : Gro m H m' H') : Grv m H m' H' := ⟨g.at', g.tups, fun a o xs h => g.frzs a o _ h, fun a o xs h => g.frzs a o _ h⟩
theorem Grv.sqt {K : PySem.W.Frag} {m m' : List Addr} {H H' : Hp} (g : Grv m H m' H') {a : Addr} {xs : List V} (h : SqT K H a xs) : SqT K H' a xs := by
  rcases h with (h | ⟨o, h⟩) | h
  · exact .inl (.inl (g.tups _ _ h))
  · exact .inl (.inr ⟨o, g.frt _ _ _ h⟩)
  · exact .inr h
theorem Grv.sqf {K : PySem.W.Frag} {m m' : List Addr} {H H' : Hp} (g : Grv m H m' H') {a : Addr} {xs : List V} (h : SqF K H a xs) : SqF K H' a xs := by
  rcases h with ⟨o, h⟩ | h
  · exact .inl ⟨o, g.frl _ _ _ h⟩
  · exact .inr h
theorem Gro.sqt {K : PySem.W.Frag} {m m' : List Addr} {H H' : Hp} (g : Gro m H m' H') {a : Addr} {xs : List V} (h : SqT K H a xs) : SqT K H' a xs := g.v.sqt h
theorem Gro.sqf {K : PySem.W.Frag} {m m' : List Addr} {H H' : Hp} (g : Gro m H m' H') {a : Addr} {xs : List V} (h : SqF K H a xs) : SqF K H' a xs := g.v.sqf h
mutual
theorem VR.grv {K : PySem.W.Frag} {m m' : List Addr} {H H' : Hp} (g : Grv m H m' H') : ∀ {p : PV} {v : V}, VR K m H p v → VR K m' H' p v
  | _, _, .non => .non
  | _, _, .bl b => .bl b
  | _, _, .int i => .int i
  | _, _, .str x => .str x
  | _, _, .tup h hs => .tup (g.sqt h) (VRs.grv g hs)
  | _, _, .fro h hs => .fro (g.sqf h) (VRs.grv g hs)
  | _, _, .ref h => .ref (g.at' _ _ h)
theorem VRs.grv {K : PySem.W.Frag} {m m' : List Addr} {H H' : Hp} (g : Grv m H m' H') : ∀ {p : List PV} {v : List V}, VRs K m H p v → VRs K m' H' p v
  | _, _, .nil => .nil
  | _, _, .cons h hs => .cons (VR.grv g h) (VRs.grv g hs)
end
theorem VR.gro {K : PySem.W.Frag} {m m' : List Addr} {H H' : Hp} (g : Gro m H m' H') {p : PV} {v : V} (h : VR K m H p v) : VR K m' H' p v := h.grv g.v
theorem VRs.gro {K : PySem.W.Frag} {m m' : List Addr} {H H' : Hp} (g : Gro m H m' H') {p : List PV} {v : List V} (h : VRs K m H p v) : VRs K m' H' p v := h.grv g.v
theorem VR.grow {K : PySem.W.Frag} {m m' : List Addr} {H H' : Hp} (g : Grow m H m' H') {p : PV} {v : V} (h : VR K m H p v) : VR K m' H' p v := h.gro g.o
theorem VRs.grow {K : PySem.W.Frag} {m m' : List Addr} {H H' : Hp} (g : Grow m H m' H') {p : List PV} {v : List V} (h : VRs K m H p v) : VRs K m' H' p v := h.gro g.o
section
variable {K : PySem.W.Frag} {m : List Addr} {H : Hp}
theorem VRs.length : ∀ {ps : List PV} {vs : List V}, VRs K m H ps vs → ps.length = vs.length
  | _, _, .nil => rfl
  | _, _, .cons _ t => congrArg Nat.succ (VRs.length t)
theorem VRs.append : ∀ {ps qs : List PV} {vs ws : List V}, VRs K m H ps vs → VRs K m H qs ws → VRs K m H (ps ++ qs) (vs ++ ws)
  | _, _, _, _, .nil, s => s
  | _, _, _, _, .cons r t, s => .cons r (VRs.append t s)
theorem VRs.at : ∀ {ps : List PV} {vs : List V} {i : Nat} {p : PV}, VRs K m H ps vs → listAt ps i = some p → ∃ v, vs[i]? = some v ∧ VR K m H p v
  | _, _, _, _, .nil, e => nomatch e
  | _, _, 0, _, .cons r _, e => by cases e; exact ⟨_, rfl, r⟩
  | _, _, i + 1, p, .cons _ t, e => by
    obtain ⟨v, h1, h2⟩ := VRs.at (i := i) t e
    exact ⟨v, by simpa using h1, h2⟩
theorem VRs.take : ∀ {ps : List PV} {vs : List V} (n : Nat), VRs K m H ps vs → VRs K m H (ps.take n) (vs.take n)
  | _, _, 0, _ => .nil
  | _, _, _ + 1, .nil => .nil
  | _, _, n + 1, .cons r t => .cons r (VRs.take n t)
theorem VRs.drop : ∀ {ps : List PV} {vs : List V} (n : Nat), VRs K m H ps vs → VRs K m H (ps.drop n) (vs.drop n)
  | _, _, 0, r => r
  | _, _, _ + 1, .nil => .nil
  | _, _, n + 1, .cons _ t => VRs.drop n t
theorem VRs.rev : ∀ {ps : List PV} {vs : List V}, VRs K m H ps vs → VRs K m H ps.reverse vs.reverse
  | _, _, .nil => .nil
  | _, _, .cons r t => by
    rw [List.reverse_cons, List.reverse_cons]
    exact (VRs.rev t).append (.cons r .nil)
theorem VRs.set {p : PV} {v : V} (r : VR K m H p v) : ∀ {ps : List PV} {vs : List V} (i : Nat), VRs K m H ps vs → VRs K m H (ps.set i p) (vs.set i v)
  | _, _, _, .nil => .nil
  | _, _, 0, .cons _ t => .cons r t
  | _, _, i + 1, .cons q t => .cons q (VRs.set r i t)
end

/-! ### the heap -/
/-- entries: keys that are ints and texts; keys that are tuples -/
abbrev LfR (K : PySem.W.Frag) (m : List Addr) (H : Hp) : List (PV × PV) → List (Key × V) → Prop := Paired fun p x => p.1 = kP x.1 ∧ VR K m H p.2 x.2
abbrev NtR (K : PySem.W.Frag) (m : List Addr) (H : Hp) : List (PV × PV) → List (NestedKey × Addr × V) → Prop := Paired fun p x => isTupV p.1 = true ∧ pureV 8 p.1 = true ∧ x.1 = nk p.1 ∧ VR K m H p.1 (.ref x.2.1) ∧ VR K m H p.2 x.2.2
def DO (K : PySem.W.Frag) (w : World) (m : List Addr) (H : Hp) (a : Addr) (kvs : List (PV × PV)) (u : HO) : Bool → Prop
  | false => ∃ ls, u = .dK ls ∧ LfR K m H kvs ls
  | true => ∃ xs, u = XN w a xs ∧ NtR K m H kvs xs
theorem DO.grv {K : PySem.W.Frag} {w : World} {m m' : List Addr} {H H' : Hp} (g : Grv m H m' H') {a : Addr} {kvs : List (PV × PV)} {u : HO} {tk : Bool} (r : DO K w m H a kvs u tk) : DO K w m' H' a kvs u tk := by
  cases tk with
  | false => obtain ⟨ls, e, q⟩ := r; exact ⟨ls, e, Paired.mapP q fun p x z => ⟨z.1, z.2.grv g⟩⟩
  | true => obtain ⟨xs, e, q⟩ := r; exact ⟨xs, e, Paired.mapP q fun p x z => ⟨z.1, z.2.1, z.2.2.1, z.2.2.2.1.grv g, z.2.2.2.2.grv g⟩⟩
theorem DO.gro {K : PySem.W.Frag} {w : World} {m m' : List Addr} {H H' : Hp} (g : Gro m H m' H') {a : Addr} {kvs : List (PV × PV)} {u : HO} {tk : Bool} (r : DO K w m H a kvs u tk) : DO K w m' H' a kvs u tk := r.grv g.v
/-- an object of the evaluator's heap -/
def OR (K : PySem.W.Frag) (cl : Nat → Addr) (fn : Nm) (m : List Addr) (H : Hp) (a : Addr) : Ob → Prop
  | .lst xs => ∃ vs, H a = some (.lst vs) ∧ VRs K m H xs vs
  | .dct d => ∃ kvs u, DR d kvs ∧ H a = some u ∧ DO K fn.w m H a kvs u d.tk
  | .dlk d => ∃ kvs o u, DR d kvs ∧ H a = some (.frz o u) ∧ DO K fn.w m H a kvs u d.tk
  | .ins c fs => ∃ dx vs, H a = some (.ins (cl c) dx ((fs.map fun q => fn.f q.1).zip vs)) ∧ VRs K m H (fs.map (·.2)) vs ∧ Cls K (cl c) ∧ ∀ q ∈ fs, q.1 < fn.n ∧ NoAttr K (cl c) (fn.f q.1)
structure HR (K : PySem.W.Frag) (cl : Nat → Addr) (fn : Nm) (m : List Addr) (H : Hp) (h : Hh) : Prop where
  nx : h.nx = m.length
  small : h.nx ≤ 1000000000
  nd : m.Nodup
  free : ∀ n o, h.get n = some o → n < h.nx
  ob : ∀ n o, h.get n = some o → ∃ a, m[n]? = some a ∧ OR K cl fn m H a o
  all : ∀ a, a ∈ m → H a ≠ none

theorem Hh.get_put {h : Hh} {n m : Nat} {o : Ob} (hn : n ≤ 1000000000) : (h.put n o).get m = if m = n then some o else h.get m := by
  show T.get (T.put 40 h.t n o) m = _
  exact T.get_put 40 h.t n m o (by omega)
theorem Hh.get_new {h : Hh} {m : Nat} {o : Ob} (hn : h.nx ≤ 1000000000) : (h.new o).get m = if m = h.nx then some o else h.get m := by
  show T.get (T.put 40 h.t h.nx o) m = _
  exact T.get_put 40 h.t h.nx m o (by omega)

section
variable {K : PySem.W.Frag} {cl : Nat → Addr} {fn : Nm} {m : List Addr} {H : Hp} {h : Hh}
theorem upd_kept {H : Hp} {p : Addr} {o : HO} {a : Addr} (h : H a ≠ none) : upd H p o a ≠ none := by
  by_cases e : a = p
  · rw [e, upd_same]; simp
  · rw [upd_ne e]; exact h
/-- a new object: from H to upd H p o -/
theorem Grow.upd_new {p : Addr} {o : HO} (hp : H p = none) (r : List Addr) (hr : ∀ a ∈ r, a = p) : Grow m H (m ++ r) (upd H p o) :=
  ⟨⟨r, rfl, fun a h => by rw [hr a h]; exact hp⟩, fun a xs h => by rw [upd_ne (ne_of_none h hp)]; exact h, fun a ob u h => by rw [upd_ne (ne_of_none h hp)]; exact h, fun a h => upd_kept h, fun a ob h _ => by rw [upd_ne (ne_of_none h hp)]; exact h⟩
theorem Grow.upd_new0 {p : Addr} {o : HO} (hp : H p = none) : Grow m H m (upd H p o) := by
  have := Grow.upd_new (m := m) (o := o) hp [] (fun _ z => by cases z)
  rwa [List.append_nil] at this
theorem Grow.upd_new1 {p : Addr} {o : HO} (hp : H p = none) : Grow m H (m ++ [p]) (upd H p o) := Grow.upd_new hp [p] (fun a z => by simpa using z)
/-- what was tracked stays what it was -/
theorem OR.keepv {m' : List Addr} {H' : Hp} (g : Grv m H m' H') {a : Addr} {o : Ob} (e : H' a = H a) (r : OR K cl fn m H a o) : OR K cl fn m' H' a o := by
  cases o with
  | lst xs => obtain ⟨vs, h1, h2⟩ := r; exact ⟨vs, by rw [e]; exact h1, h2.grv g⟩
  | dct d => obtain ⟨kvs, u, h1, h2, h3⟩ := r; exact ⟨kvs, u, h1, by rw [e]; exact h2, h3.grv g⟩
  | dlk d => obtain ⟨kvs, o, u, h1, h2, h3⟩ := r; exact ⟨kvs, o, u, h1, by rw [e]; exact h2, h3.grv g⟩
  | ins c fs => obtain ⟨dx, vs, h1, h2, h3⟩ := r; exact ⟨dx, vs, by rw [e]; exact h1, h2.grv g, h3⟩
theorem OR.keep {m' : List Addr} {H' : Hp} (g : Gro m H m' H') {a : Addr} {o : Ob} (e : H' a = H a) (r : OR K cl fn m H a o) : OR K cl fn m' H' a o := r.keepv g.v e
/-- a new thing that the evaluator's heap does not number (a tuple) -/
theorem HR.tup (r : HR K cl fn m H h) {p : Addr} {o : HO} (hp : H p = none) : HR K cl fn m (upd H p o) h := by
  refine ⟨r.nx, r.small, r.nd, r.free, fun n ob e => ?_, fun a ha => ?_⟩
  · obtain ⟨a, h1, h2⟩ := r.ob n ob e
    have na : a ≠ p := fun z => r.all a (List.mem_of_getElem? h1) (by rw [z]; exact hp)
    exact ⟨a, h1, OR.keep (Grow.upd_new0 hp).o (upd_ne na) h2⟩
  · by_cases e : a = p
    · rw [e, upd_same]; simp
    · rw [upd_ne e]; exact r.all a ha
/-- a new object -/
theorem HR.new (r : HR K cl fn m H h) {p : Addr} {o : HO} {ob : Ob} (hp : H p = none) (hs : h.nx < 1000000000) (ho : OR K cl fn (m ++ [p]) (upd H p o) p ob) : HR K cl fn (m ++ [p]) (upd H p o) (h.new ob) := by
  have hpm : p ∉ m := fun z => r.all p z hp
  refine ⟨by show h.nx + 1 = _; rw [List.length_append, r.nx]; rfl, by show h.nx + 1 ≤ _; omega, ?_, fun n o' e => ?_, fun n o' e => ?_, fun a ha => ?_⟩
  · rw [List.nodup_append]
    exact ⟨r.nd, (by simp), fun a ha b hb => by
      rw [List.mem_singleton] at hb
      rintro rfl
      exact hpm (hb ▸ ha)⟩
  · rw [Hh.get_new (by omega)] at e
    show n < h.nx + 1
    by_cases en : n = h.nx
    · omega
    · rw [if_neg en] at e
      have := r.free n o' e
      omega
  · rw [Hh.get_new (by omega)] at e
    by_cases en : n = h.nx
    · rw [if_pos en] at e
      cases e
      refine ⟨p, ?_, ho⟩
      rw [en, r.nx, List.getElem?_append_right (Nat.le_refl _)]
      simp
    · rw [if_neg en] at e
      obtain ⟨a, h1, h2⟩ := r.ob n o' e
      have na : a ≠ p := fun z => hpm (z ▸ List.mem_of_getElem? h1)
      exact ⟨a, (Grow.upd_new1 (o := o) hp).at h1, OR.keep (Grow.upd_new1 hp).o (upd_ne na) h2⟩
  · rcases List.mem_append.mp ha with z | z
    · have na : a ≠ p := fun e => hpm (e ▸ z)
      rw [upd_ne na]; exact r.all a z
    · rw [List.mem_singleton] at z
      rw [z, upd_same]; simp
/-- what may be changed is neither a tuple nor locked -/
theorem Grow.upd_mut {a : Addr} {o : HO} (ha : a ∈ m) (ht : ∀ xs, H a ≠ some (.tup xs)) (hf : ∀ ob u, H a ≠ some (.frz ob u)) : Grow m H m (upd H a o) :=
  ⟨⟨[], by simp, fun _ z => by cases z⟩, fun b xs h => by
    have nb : b ≠ a := fun z => ht xs (z ▸ h)
    rw [upd_ne nb]; exact h, fun b ob u h => by
    have nb : b ≠ a := fun z => hf ob u (z ▸ h)
    rw [upd_ne nb]; exact h, fun b h => upd_kept h, fun b ob h hb => by
    have nb : b ≠ a := fun z => hb (z ▸ ha)
    rw [upd_ne nb]; exact h⟩
theorem nodup_at {l : List Addr} (nd : l.Nodup) {i j : Nat} {a : Addr} (h1 : l[i]? = some a) (h2 : l[j]? = some a) : i = j := by
  obtain ⟨l1, e1⟩ := List.getElem?_eq_some_iff.mp h1
  obtain ⟨l2, e2⟩ := List.getElem?_eq_some_iff.mp h2
  exact (List.getElem_inj nd).mp (e1.trans e2.symm)
/-- an object changed -/
theorem HR.putv (r : HR K cl fn m H h) {n : Nat} {a : Addr} {o : HO} {ob ob' : Ob} (hn : h.get n = some ob) (ha : m[n]? = some a) (g : Grv m H m (upd H a o)) (ho : OR K cl fn m (upd H a o) a ob') :
    HR K cl fn m (upd H a o) (h.put n ob') := by
  have hln : n < h.nx := r.free n ob hn
  have hs := r.small
  refine ⟨r.nx, hs, r.nd, fun k o' e => ?_, fun k o' e => ?_, fun b hb => ?_⟩
  · rw [Hh.get_put (by omega)] at e
    show k < h.nx
    by_cases ek : k = n
    · omega
    · rw [if_neg ek] at e
      exact r.free k o' e
  · rw [Hh.get_put (by omega)] at e
    by_cases ek : k = n
    · rw [if_pos ek] at e
      cases e
      exact ⟨a, by rw [ek]; exact ha, ho⟩
    · rw [if_neg ek] at e
      obtain ⟨b, h1, h2⟩ := r.ob k o' e
      have nb : b ≠ a := fun z => ek (nodup_at r.nd h1 (z ▸ ha))
      exact ⟨b, h1, OR.keepv g (upd_ne nb) h2⟩
  · by_cases e : b = a
    · rw [e, upd_same]; simp
    · rw [upd_ne e]; exact r.all b hb
theorem HR.put (r : HR K cl fn m H h) {n : Nat} {a : Addr} {o : HO} {ob ob' : Ob} (hn : h.get n = some ob) (ha : m[n]? = some a) (g : Grow m H m (upd H a o)) (ho : OR K cl fn m (upd H a o) a ob') :
    HR K cl fn m (upd H a o) (h.put n ob') := r.putv hn ha g.o.v ho
theorem DO.mut {w : World} {a : Addr} {kvs : List (PV × PV)} {u : HO} {tk : Bool} (d : DO K w m H a kvs u tk) : Mut (some u) ∧ (∀ o v, u ≠ .frz o v) ∧ (∀ xs, u ≠ .lst xs) ∧ (∀ xs, u ≠ .tup xs) := by
  cases tk with
  | false => obtain ⟨ls, rfl, _⟩ := d; refine ⟨True.intro, ?_, ?_, ?_⟩ <;> (intros; intro e; cases e)
  | true => obtain ⟨xs, rfl, _⟩ := d; refine ⟨True.intro, ?_, ?_, ?_⟩ <;> (intros; intro e; cases e)
/-- a dict is locked -/
theorem HR.lock (r : HR K cl fn m H h) {n : Nat} {a : Addr} {d : Dd} (z : h.get n = some (.dct d)) (ha : m[n]? = some a) : ∃ kvs u, DR d kvs ∧ H a = some u ∧ DO K fn.w m H a kvs u d.tk ∧
    ∀ o, HR K cl fn m (upd H a (.frz o u)) (h.put n (.dlk d)) ∧ Grow m H m (upd H a (.frz o u)) := by
  obtain ⟨b, h1, kvs, u, h2, h3, h4⟩ := r.ob n _ z
  rw [ha] at h1
  cases h1
  refine ⟨kvs, u, h2, h3, h4, fun o => ?_⟩
  obtain ⟨_, q2, q3, q4⟩ := h4.mut
  have g : Grow m H m (upd H a (.frz o u)) := Grow.upd_mut (List.mem_of_getElem? ha) (fun xs e => by rw [h3] at e; cases e; exact q4 xs rfl) (fun ob v e => by rw [h3] at e; cases e; exact q2 ob v rfl)
  exact ⟨r.put (ob' := .dlk d) z ha g ⟨kvs, o, u, h2, upd_same, h4.gro g.o⟩, g⟩
/-- and let go -/
theorem HR.unl (r : HR K cl fn m H h) {n : Nat} {a : Addr} {d : Dd} (z : h.get n = some (.dlk d)) (ha : m[n]? = some a) : ∃ o u, H a = some (.frz o u) ∧ Mut (some u) ∧ HR K cl fn m (upd H a u) (h.put n (.dct d)) := by
  obtain ⟨b, h1, kvs, o, u, h2, h3, h4⟩ := r.ob n _ z
  rw [ha] at h1
  cases h1
  obtain ⟨q1, q2, q3, q4⟩ := h4.mut
  have g : Grv m H m (upd H a u) := by
    refine ⟨fun _ _ e => e, fun b xs e => ?_, fun b o' xs e => ?_, fun b o' xs e => ?_⟩
    · rw [upd_ne (fun z => by rw [z, h3] at e; cases e)]; exact e
    · rw [upd_ne (fun z => by rw [z, h3] at e; cases e; exact q4 xs rfl)]; exact e
    · rw [upd_ne (fun z => by rw [z, h3] at e; cases e; exact q3 xs rfl)]; exact e
  exact ⟨o, u, h3, q1, r.putv (ob' := .dct d) z ha g ⟨kvs, u, h2, upd_same, h4.grv g⟩⟩
end

/-! ### names -/
def ROp (K : PySem.W.Frag) (m : List Addr) (H : Hp) : Option PV → Option V → Prop
  | some p, some v => VR K m H p v
  | some _, none => False
  | none, _ => True
abbrev EnvR (K : PySem.W.Frag) (m : List Addr) (H : Hp) (env : Env) (σ : L2.St) : Prop := Paired (ROp K m H) env σ
section
variable {K : PySem.W.Frag} {m m' : List Addr} {H H' : Hp}
theorem ROp.grow (g : Grow m H m' H') {p : Option PV} {v : Option V} (r : ROp K m H p v) : ROp K m' H' p v := by
  cases p with
  | none => trivial
  | some p =>
    cases v with
    | none => exact r
    | some v => exact VR.grow g r
theorem EnvR.grow (g : Grow m H m' H') {env : Env} {σ : L2.St} (r : EnvR K m H env σ) : EnvR K m' H' env σ := Paired.mapP r fun _ _ => ROp.grow g
theorem EnvR.get : ∀ {env : Env} {σ : L2.St} {i : Nat} {p : PV}, EnvR K m H env σ → eget env i = some p → ∃ v, σ[i]? = some (some v) ∧ VR K m H p v
  | _, _, _, _, .nil, e => nomatch e
  | _, _, 0, p, .cons (a := o) (b := v) r _, e => by
    have e : o = some p := e
    subst e
    cases v with
    | none => exact r.elim
    | some v => exact ⟨v, rfl, r⟩
  | _, _, i + 1, p, .cons _ t, e => by
    obtain ⟨v, h1, h2⟩ := EnvR.get (i := i) t e
    exact ⟨v, by simpa using h1, h2⟩
theorem EnvR.set {p : PV} {v : V} (q : VR K m H p v) : ∀ {env : Env} {σ : L2.St} (i : Nat), EnvR K m H env σ → EnvR K m H (eset env i p) (σ.set i (some v))
  | _, _, _, .nil => .nil
  | _, _, 0, .cons _ t => .cons q t
  | _, _, i + 1, .cons r t => .cons r (EnvR.set q i t)
theorem EnvR.wipe1 : ∀ {env : Env} {σ : L2.St} (i : Nat), EnvR K m H env σ → EnvR K m H (wipe1 env i) (σ.set i none)
  | _, _, _, .nil => .nil
  | _, _, 0, .cons _ t => .cons trivial t
  | _, _, i + 1, .cons r t => .cons r (EnvR.wipe1 i t)
theorem EnvR.wipe : ∀ (is : List Nat) {env : Env} {σ : L2.St}, EnvR K m H env σ → EnvR K m H (wipeE env is) (L2.wipe σ is)
  | [], _, _, r => r
  | i :: is, _, _, r => EnvR.wipe1 i (EnvR.wipe is r)
end

/-! ### the judgements -/
section
variable (K : PySem.W.Frag) (cl : Nat → Addr) (fn : Nm)
def OkE (r : R PV) (m : List Addr) (H : Hp) (Q : VK) : Prop := match r with
  | .ok v h' => ∀ m' H' x, Grow m H m' H' → HR K cl fn m' H' h' → VR K m' H' v x → Q x H'
  | .no _ => False
def OkT (r : R Bool) (m : List Addr) (H : Hp) (Q : Bool → Hp → Prop) : Prop := match r with
  | .ok b h' => ∀ m' H', Grow m H m' H' → HR K cl fn m' H' h' → Q b H'
  | .no _ => False
def OkL (r : R (List PV)) (m : List Addr) (H : Hp) (Q : List V → Hp → Prop) : Prop := match r with
  | .ok vs h' => ∀ m' H' xs, Grow m H m' H' → HR K cl fn m' H' h' → VRs K m' H' vs xs → Q xs H'
  | .no _ => False
def OkS (r : R Fl) (m : List Addr) (H : Hp) (D : Ends) : Prop := match r with
  | .ok f h' => ∀ m' H', Grow m H m' H' → HR K cl fn m' H' h' → (match f with
    | .nx e => ∀ σ, EnvR K m' H' e σ → D.nx σ H'
    | .rt v => ∀ x, VR K m' H' v x → D.rt x H'
    | .bk e => ∀ σ, EnvR K m' H' e σ → D.bk σ H'
    | .ct e => ∀ σ, EnvR K m' H' e σ → D.ct σ H')
  | .no _ => False
end
/-! the readings: what must hold so that the evaluation's end is what is wanted -/
section
variable (K : PySem.W.Frag) (cl : Nat → Addr) (fn : Nm)
def cE (f : Ee) : TE := fun σ H Q => ∃ m env h, EnvR K m H env σ ∧ HR K cl fn m H h ∧ OkE K cl fn (f.run env h) m H Q
def cT (f : Et) : TT := fun σ H Q => ∃ m env h, EnvR K m H env σ ∧ HR K cl fn m H h ∧ OkT K cl fn (f.run env h) m H Q
def cTs (fs : List Et) : TT := fun σ H Q => ∃ m env h, EnvR K m H env σ ∧ HR K cl fn m H h ∧ OkT K cl fn (evTs fs env h) m H Q
def cL (fs : List Ee) : TA := fun σ H Q => ∃ m env h, EnvR K m H env σ ∧ HR K cl fn m H h ∧ OkL K cl fn (evL fs env h) m H Q
def cS (f : Es) : TS := fun D σ H => ∃ m env h, EnvR K m H env σ ∧ HR K cl fn m H h ∧ OkS K cl fn (f.run env h) m H D
end
/-- nothing but these slots has changed -/
def Only (l : List Nat) (σ σ' : L2.St) : Prop := σ'.length = σ.length ∧ ∀ i, i ∉ l → σ'[i]? = σ[i]?
mutual
def Tg.slots : Tg → List Nat
  | .var i => [i]
  | .tup ts => Tg.slotss ts
def Tg.slotss : List Tg → List Nat
  | [] => []
  | t :: ts => Tg.slots t ++ Tg.slotss ts
end
def cG (K : PySem.W.Frag) (g : Tg) : TG := fun x σ H Q => ∃ m env p, EnvR K m H env σ ∧ VR K m H p x ∧ (match stTg g p env with
  | some env' => ∀ σ', EnvR K m H env' σ' → Only g.slots σ σ' → Q σ' H
  | none => False)
theorem _root_.L2.PE.of {X : Cx} {e : Expr} {t t' : TE} (h : PE X e t) (w : ∀ σ H Q, t' σ H Q → t σ H Q) : PE X e t' := ⟨fun pins s σ H Q I q => h.run pins s σ H Q I (w σ H Q q)⟩
theorem _root_.L2.PT.of {X : Cx} {e : Expr} {t t' : TT} (h : PT X e t) (w : ∀ σ H Q, t' σ H Q → t σ H Q) : PT X e t' := ⟨fun pins s σ H Q I q => h.run pins s σ H Q I (w σ H Q q)⟩
theorem _root_.L2.PA.of {X : Cx} {e : List Expr} {t t' : TA} (h : PA X e t) (w : ∀ σ H Q, t' σ H Q → t σ H Q) : PA X e t' := ⟨fun pos pins s σ H Q I q => h.run pos pins s σ H Q I (w σ H Q q)⟩
theorem _root_.L2.PS.of {X : Cx} {e : Stmt} {t t' : TS} (h : PS X e t) (w : ∀ D σ H, t' D σ H → t D σ H) : PS X e t' := ⟨fun pins s σ H D I q => h.run pins s σ H D I (w D σ H q)⟩
theorem _root_.L2.PSs.of {X : Cx} {e : List Stmt} {t t' : TS} (h : PSs X e t) (w : ∀ D σ H, t' D σ H → t D σ H) : PSs X e t' := ⟨fun pins s σ H D I q => h.run pins s σ H D I (w D σ H q)⟩
theorem _root_.L2.PG.of {X : Cx} {e : Expr} {t t' : TG} (h : PG X e t) (w : ∀ x σ H Q, t' x σ H Q → t x σ H Q) : PG X e t' := ⟨fun pins s σ H v u Q I r q => h.run pins s σ H v u Q I r (w v σ H Q q)⟩
section
variable {K : PySem.W.Frag} {cl : Nat → Addr} {fn : Nm} {m : List Addr} {H : Hp} {h : Hh} {env : Env} {σ : L2.St}
/-- an expression's evaluation, then what follows -/
theorem cE.bind {f : Ee} {Q : VK} (e : EnvR K m H env σ) (r : HR K cl fn m H h) (k : ∀ v h1, f.run env h = .ok v h1 → ∀ m1 H1 x, Grow m H m1 H1 → HR K cl fn m1 H1 h1 → EnvR K m1 H1 env σ → VR K m1 H1 v x → Q x H1)
    (ok : ∀ n, f.run env h ≠ .no n) : cE K cl fn f σ H Q := by
  refine ⟨m, env, h, e, r, ?_⟩
  cases z : f.run env h with
  | no n => exact ok n z
  | ok v h1 => exact fun m1 H1 x g r1 q => k v h1 z m1 H1 x g r1 (e.grow g) q
theorem cT.bind {f : Et} {Q : Bool → Hp → Prop} (e : EnvR K m H env σ) (r : HR K cl fn m H h) (k : ∀ b h1, f.run env h = .ok b h1 → ∀ m1 H1, Grow m H m1 H1 → HR K cl fn m1 H1 h1 → EnvR K m1 H1 env σ → Q b H1)
    (ok : ∀ n, f.run env h ≠ .no n) : cT K cl fn f σ H Q := by
  refine ⟨m, env, h, e, r, ?_⟩
  cases z : f.run env h with
  | no n => exact ok n z
  | ok v h1 => exact fun m1 H1 g r1 => k v h1 z m1 H1 g r1 (e.grow g)
theorem cL.bind {fs : List Ee} {Q : List V → Hp → Prop} (e : EnvR K m H env σ) (r : HR K cl fn m H h) (k : ∀ vs h1, evL fs env h = .ok vs h1 → ∀ m1 H1 xs, Grow m H m1 H1 → HR K cl fn m1 H1 h1 → EnvR K m1 H1 env σ → VRs K m1 H1 vs xs → Q xs H1)
    (ok : ∀ n, evL fs env h ≠ .no n) : cL K cl fn fs σ H Q := by
  refine ⟨m, env, h, e, r, ?_⟩
  cases z : evL fs env h with
  | no n => exact ok n z
  | ok v h1 => exact fun m1 H1 xs g r1 q => k v h1 z m1 H1 xs g r1 (e.grow g) q
theorem OkE.mono {r : R PV} {m1 : List Addr} {H1 : Hp} {Q : VK} (g : Grow m H m1 H1) (k : OkE K cl fn r m H Q) : OkE K cl fn r m1 H1 Q := by
  cases r with
  | no n => exact k
  | ok v h => exact fun m' H' x g' r' q => k m' H' x (g.trans g') r' q
theorem OkT.mono {r : R Bool} {m1 : List Addr} {H1 : Hp} {Q : Bool → Hp → Prop} (g : Grow m H m1 H1) (k : OkT K cl fn r m H Q) : OkT K cl fn r m1 H1 Q := by
  cases r with
  | no n => exact k
  | ok v h => exact fun m' H' g' r' => k m' H' (g.trans g') r'
theorem OkL.mono {r : R (List PV)} {m1 : List Addr} {H1 : Hp} {Q : List V → Hp → Prop} (g : Grow m H m1 H1) (k : OkL K cl fn r m H Q) : OkL K cl fn r m1 H1 Q := by
  cases r with
  | no n => exact k
  | ok v h => exact fun m' H' x g' r' q => k m' H' x (g.trans g') r' q
theorem OkS.mono {r : R Fl} {m1 : List Addr} {H1 : Hp} {D : Ends} (g : Grow m H m1 H1) (k : OkS K cl fn r m H D) : OkS K cl fn r m1 H1 D := by
  cases r with
  | no n => exact k
  | ok v h => exact fun m' H' g' r' => k m' H' (g.trans g') r'
end
end Ev

set_option Elab.async false
set_option linter.all false
set_option maxRecDepth 100000
set_option maxHeartbeats 4000000
/-! EvT: tuple * int, any number (as HandS.TupMul). -/
namespace Ev
open PySem PySem.Spec PyProof.Rows L2

theorem tuple_mulS (l : Addr) (items : Array Value) (n : Nat) (dd : Option Addr) (sl : Array (Option Value)) (x : Int) (u : Tok) (c0 : (decide (x < -(2 ^ 63)) || decide (x ≥ 2 ^ 63)) = false) (c1 : (items.isEmpty || x == 1) = true) :
    Meets (Builtin.«tuple.__mul__» ⟨[.ref l, .int x u], []⟩) (fun _ R s => s.heap.get? l = some { cls := .type "tuple", dict := dd, data := .seq items n, slots := sl } ∧ R (.ok (.ret (Value.ref l))) s) :=
  .of_wp fun prog w A R s h => by
    obtain ⟨hp, g, d, tk, os⟩ := s
    obtain ⟨hl, h⟩ := h
    have f1 := AutoSeq1.idx_int
    wp_walk using wpAny_loadPart' hl
    repeat (first
      | (refine wpAny_ite_false (decide_eq_false (by rw [c0]; exact Bool.false_ne_true)) ?_; wp_walk using wpAny_loadPart' hl)
      | (refine wpAny_ite_true (decide_eq_true c1) ?_; wp_walk using wpAny_loadPart' hl))
    exact ⟨_, rfl, h⟩
theorem tuple_mulN (l : Addr) (items : Array Value) (n : Nat) (dd : Option Addr) (sl : Array (Option Value)) (x : Int) (u : Tok) (c0 : (decide (x < -(2 ^ 63)) || decide (x ≥ 2 ^ 63)) = false) (c1 : (items.isEmpty || x == 1) = false) (c2 : (decide (x ≤ 0) || items.isEmpty) = true) :
    Meets (Builtin.«tuple.__mul__» ⟨[.ref l, .int x u], []⟩) (fun _ R s => s.heap.get? l = some { cls := .type "tuple", dict := dd, data := .seq items n, slots := sl } ∧
      R (.ok (.ret (Value.ref s.heap.objs.size))) { s with heap := s.heap.push { cls := Value.type "tuple", data := Data.seq #[] }, toks := s.toks }) :=
  .of_wp fun prog w A R s h => by
    obtain ⟨hp, g, d, tk, os⟩ := s
    obtain ⟨hl, h⟩ := h
    have f1 := AutoSeq1.idx_int
    wp_walk using wpAny_loadPart' hl
    repeat (first
      | (refine wpAny_ite_false (decide_eq_false (by rw [c0]; exact Bool.false_ne_true)) ?_; wp_walk using wpAny_loadPart' hl)
      | (refine wpAny_ite_false (decide_eq_false (by rw [c1]; exact Bool.false_ne_true)) ?_; wp_walk using wpAny_loadPart' hl)
      | (refine wpAny_ite_true (decide_eq_true c2) ?_; wp_walk using wpAny_loadPart' hl))
    exact ⟨_, rfl, h⟩
def rRepTA (K : PySem.W.Frag) : R2 := fun x y H Q => ∃ l k xs, x = .ref l ∧ y = .int k ∧ SqT K H l xs ∧ -(2 ^ 62) ≤ k ∧ k < 2 ^ 62 ∧ xs.length * k.toNat ≤ sizeLine ∧ (xs = [] ∨ k = 1 → Q (.ref l) H) ∧
  (xs ≠ [] → k ≠ 1 → ∀ p, H p = none → Q (.ref p) (upd H p (.tup (List.replicate k.toNat xs).flatten)))
theorem op_repTA {X : Cx} : OpR X (binaryOp .Mult) (rRepTA X.K) := by
  intro pins s σ H x y v u Q I rx ry h
  obtain ⟨l, k, xs, rfl, rfl, hT, h1, h2, hz, q1, q2⟩ := h
  cases rx
  obtain ⟨t, rfl⟩ := ry
  obtain ⟨its, r, ⟨⟨cls, dd, data, sl⟩, ho, hc, n, hd⟩, hs⟩ := I.tuple hT
  simp only at hc hd
  subst hc hd
  have hle : its.length = xs.length := r.length.symm
  have c0 : (decide (k < -(2 ^ 63)) || decide (k ≥ 2 ^ 63)) = false := by
    rw [decide_eq_false (by omega), decide_eq_false (by omega)] <;> rfl
  have hi : its.toArray.isEmpty = xs.isEmpty := by
    cases its with
    | nil => cases xs with
      | nil => rfl
      | cons _ _ => cases hle
    | cons _ _ => cases xs with
      | nil => cases hle
      | cons _ _ => rfl
  by_cases hsame : xs = [] ∨ k = 1
  · have c1 : (its.toArray.isEmpty || k == 1) = true := by
      rw [hi]
      rcases hsame with e | e
      · rw [e]; rfl
      · rw [e]; simp
    refine wpAny_binaryOp_repeat_ref (T := "tuple") (U := "int") (by decide) ⟨_, ho, rfl⟩ (fun s' => typeIs_int s' k t) noFill_tuple_mul F.fills_int_mul F.slot_int_rmul repeat_tuple F.slot_int_index.lookup
      (call_meets F.slot_int_rmul (typeIs_int s k t) F.entry_int_rmul (F.args_int_rmul_2 _ _) (int_rmul_tuple k t l its.toArray n dd sl)
        ⟨ho, rfl, ⟨_, ho, rfl⟩, call_meets F.slot_tuple_mul ⟨_, ho, rfl⟩ F.entry_tuple_mul (F.args_tuple_mul_2 _ _) (tuple_mulS l its.toArray n dd sl k t c0 c1) ⟨ho, ?_⟩⟩)
    exact ⟨.ref l, H, I, rfl, q1 hsame⟩
  · have hne : xs ≠ [] := fun e => hsame (.inl e)
    have hk : k ≠ 1 := fun e => hsame (.inr e)
    have he : xs.isEmpty = false := by cases xs with
      | nil => exact absurd rfl hne
      | cons _ _ => rfl
    have c1 : (its.toArray.isEmpty || k == 1) = false := by
      rw [hi, he, Bool.false_or]
      exact beq_eq_false_iff_ne.mpr hk
    by_cases hp : k ≤ 0
    · have c2 : (decide (k ≤ 0) || its.toArray.isEmpty) = true := by rw [decide_eq_true hp]; rfl
      refine wpAny_binaryOp_repeat_ref (T := "tuple") (U := "int") (by decide) ⟨_, ho, rfl⟩ (fun s' => typeIs_int s' k t) noFill_tuple_mul F.fills_int_mul F.slot_int_rmul repeat_tuple F.slot_int_index.lookup
        (call_meets F.slot_int_rmul (typeIs_int s k t) F.entry_int_rmul (F.args_int_rmul_2 _ _) (int_rmul_tuple k t l its.toArray n dd sl)
          ⟨ho, rfl, ⟨_, ho, rfl⟩, call_meets F.slot_tuple_mul ⟨_, ho, rfl⟩ F.entry_tuple_mul (F.args_tuple_mul_2 _ _) (tuple_mulN l its.toArray n dd sl k t c0 c1 c2) ⟨ho, ?_⟩⟩)
      have q := q2 hne hk _ (I.hok.fresh (Nat.le_refl s.heap.objs.size))
      have e0 : k.toNat = 0 := by omega
      rw [e0] at q
      exact ⟨.ref s.heap.objs.size, _, I.laid (t' := s.toks) (o := .tup []) (fun b ob q => Heap.get?_push_of_some _ q) (Nat.le_refl _) ⟨Nat.zero_le _, [], .nil, IsTup.new _ _⟩, rfl, q⟩
    · have c2 : (decide (k ≤ 0) || its.toArray.isEmpty) = false := by
        rw [hi, he, Bool.or_false]
        exact decide_eq_false hp
      have hm : ((its.toArray.size : Nat) : Int) * k ≤ (sizeLine : Nat) := by
        rw [List.size_toArray, hle]
        have e1 : k = (k.toNat : Int) := by omega
        rw [e1, ← Int.natCast_mul]
        exact Int.ofNat_le.mpr hz
      have hsl : sizeLine = 16777216 := sizeLine_eq
      have c4 : Builtin.Tuple.tupleTooMany (((its.toArray.size : Nat) : Int) * k) = false := by
        unfold Builtin.Tuple.tupleTooMany
        exact decide_eq_false (by omega)
      have flen : (List.replicate k.toNat its).flatten.length ≤ sizeLine := by
        rw [PyProof.Rows.lm_len_rep_flat, hle, Nat.mul_comm]
        exact hz
      refine wpAny_binaryOp_repeat_ref (T := "tuple") (U := "int") (by decide) ⟨_, ho, rfl⟩ (fun s' => typeIs_int s' k t) noFill_tuple_mul F.fills_int_mul F.slot_int_rmul repeat_tuple F.slot_int_index.lookup
        (call_meets F.slot_int_rmul (typeIs_int s k t) F.entry_int_rmul (F.args_int_rmul_2 _ _) (int_rmul_tuple k t l its.toArray n dd sl)
          ⟨ho, rfl, ⟨_, ho, rfl⟩, call_meets F.slot_tuple_mul ⟨_, ho, rfl⟩ F.entry_tuple_mul (F.args_tuple_mul_2 _ _) (tuple_mulW l its.toArray n dd sl k t c0 c1 c2 (by omega) c4 (by rw [size_rep, List.size_toArray]; exact flen)) ⟨ho, ?_⟩⟩)
      rw [size_rep]
      refine ⟨.ref s.heap.objs.size, _, I.laid (t' := s.toks) (o := .tup (List.replicate k.toNat xs).flatten) (fun b ob q => Heap.get?_push_of_some _ q) (Nat.le_refl _) ?_, rfl, q2 hne hk _ (I.hok.fresh (Nat.le_refl _))⟩
      exact ⟨by rw [PyProof.Rows.lm_len_rep_flat, Nat.mul_comm]; exact hz, _, r.rep k.toNat, IsTup.new _ _⟩
end Ev

set_option Elab.async false
set_option linter.all false
set_option maxRecDepth 100000
/-! Ev6: operators and built-ins by values. -/
namespace Ev
open PySem PySem.Spec PyProof.Rows L2

section
variable {K : PySem.W.Frag} {cl : Nat → Addr} {fn : Nm} {m : List Addr} {H : Hp} {h : Hh}
/-- a value handed on -/
theorem OkE.give {v : PV} {x : V} {Q : VK} (k : OkE K cl fn (.ok v h) m H Q) (r : HR K cl fn m H h) (q : VR K m H v x) : Q x H := k m H x (Grow.refl m H) r q
/-- a new tuple -/
theorem OkE.tup {ps : List PV} {vs : List V} {Q : VK} (k : OkE K cl fn (.ok (.tup ps) h) m H Q) (r : HR K cl fn m H h) (q : VRs K m H ps vs) {p : Addr} (hp : H p = none) : Q (.ref p) (upd H p (.tup vs)) :=
  k m _ _ (Grow.upd_new0 hp) (r.tup hp) (.tup (SqT.of upd_same) (q.grow (Grow.upd_new0 hp)))
theorem newOb_eq {o : Ob} {R : Hh → Prop} (k : OkE K cl fn (newOb o h) m H Q) : h.nx < 1000000000 ∧ newOb o h = .ok (.ref h.nx) (h.new o) := by
  unfold newOb at k ⊢
  cases e : Nat.blt h.nx 1000000000 with
  | false => rw [e] at k; exact k.elim
  | true =>
    rw [frN_eq]
    refine ⟨?_, rfl⟩
    have := Nat.le_of_ble_eq_true (show Nat.ble (h.nx + 1) 1000000000 = true from e)
    omega
/-- a new list -/
theorem OkE.lst {ps : List PV} {vs : List V} {Q : VK} (k : OkE K cl fn (newOb (.lst ps) h) m H Q) (r : HR K cl fn m H h) (q : VRs K m H ps vs) {p : Addr} (hp : H p = none) : Q (.ref p) (upd H p (.lst vs)) := by
  obtain ⟨hs, e⟩ := newOb_eq (R := fun _ => True) k
  rw [e] at k
  have g : Grow m H (m ++ [p]) (upd H p (.lst vs)) := Grow.upd_new1 hp
  refine k (m ++ [p]) _ _ g (r.new hp hs ⟨vs, upd_same, q.grow g⟩) (.ref ?_)
  rw [r.nx, List.getElem?_append_right (Nat.le_refl _)]
  simp
theorem sizeOk_le {n : Nat} (e : sizeOk n = true) : n ≤ sizeLine := by
  have := Nat.le_of_ble_eq_true e
  rw [sizeLine_eq]
  exact this
theorem VR.tup_inv {ps : List PV} {x : V} (r : VR K m H (.tup ps) x) : ∃ a vs, x = .ref a ∧ SqT K H a vs ∧ VRs K m H ps vs := by
  cases r with
  | tup h1 h2 => exact ⟨_, _, rfl, h1, h2⟩
theorem VR.fro_inv {ps : List PV} {x : V} (r : VR K m H (.fro ps) x) : ∃ a vs, x = .ref a ∧ SqF K H a vs ∧ VRs K m H ps vs := by
  cases r with
  | fro h1 h2 => exact ⟨_, _, rfl, h1, h2⟩
theorem VR.ref_inv {n : Nat} {x : V} (r : VR K m H (.ref n) x) : ∃ a, x = .ref a ∧ m[n]? = some a := by
  cases r with
  | ref h1 => exact ⟨_, rfl, h1⟩
/-- a list of the heap -/
theorem HR.lst (r : HR K cl fn m H h) {n : Nat} {a : Addr} {ps : List PV} (e : h.get n = some (.lst ps)) (ha : m[n]? = some a) : ∃ vs, H a = some (.lst vs) ∧ VRs K m H ps vs := by
  obtain ⟨b, h1, vs, h2, h3⟩ := r.ob n _ e
  rw [ha] at h1
  cases h1
  exact ⟨vs, h2, h3⟩
/-- a list that is read -/
theorem lsOf_sql (r : HR K cl fn m H h) {v : PV} {x : V} {ps : List PV} (q : VR K m H v x) (e : lsOf h v = some ps) : ∃ a vs, x = .ref a ∧ SqL K H a vs ∧ VRs K m H ps vs := by
  cases v with
  | fro xs =>
    cases e
    obtain ⟨a, vs, e1, e2, e3⟩ := q.fro_inv
    exact ⟨a, vs, e1, e2.sql, e3⟩
  | ref n =>
    obtain ⟨a, e1, e2⟩ := q.ref_inv
    have e : (match h.get n with
      | some (.lst xs) => some xs
      | _ => none) = some ps := e
    cases z : h.get n with
    | none => rw [z] at e; cases e
    | some o =>
      rw [z] at e
      cases o with
      | lst xs =>
        cases e
        obtain ⟨vs, h1, h2⟩ := r.lst z e2
        exact ⟨a, vs, e1, SqL.of h1, h2⟩
      | _ => cases e
  | _ => cases e
end

/-- a function of two values and a rule's reading -/
def OpV (K : PySem.W.Frag) (cl : Nat → Addr) (fn : Nm) (g : PV → PV → Hh → R PV) (r : R2) : Prop :=
  ∀ m H h p q x y Q, HR K cl fn m H h → VR K m H p x → VR K m H q y → OkE K cl fn (g p q h) m H Q → r x y H Q
section
variable {X : Cx} {cl : Nat → Addr} {fn : Nm}
abbrev rAddS : R2 := fun x y H Q => ∃ i j, x = .str i ∧ y = .str j ∧ i.length + j.length ≤ sizeLine ∧ Q (.str (i ++ j)) H
abbrev rAddAll (K : PySem.W.Frag) : R2 := fun x y H Q => rI0 (fun i j => .int (i + j)) x y H Q ∨ rCatA K x y H Q ∨ rAddS x y H Q ∨ rCat x y H Q
theorem or_add : OpR X (binaryOp .Add) (rAddAll X.K) := op_add.or (op_catA.or (op_add_str.or op_cat))
theorem ov_add {K : PySem.W.Frag} : OpV K cl fn (bopV .add) (rAddAll K) := by
  intro m H h p q x y Q r vp vq k
  have k : OkE K cl fn (bAdd p q h) m H Q := k
  cases p with
  | int i =>
    cases q with
    | int j => cases vp; cases vq; exact .inl ⟨i, j, rfl, rfl, k.give r (.int _)⟩
    | _ => exact k.elim
  | tup ps =>
    cases q with
    | tup qs =>
      obtain ⟨a, vs, rfl, ha, rs⟩ := vp.tup_inv
      obtain ⟨b, ws, rfl, hb, rt⟩ := vq.tup_inv
      have k : OkE K cl fn (match sizeOk (ps.length + qs.length) with
        | true => .ok (.tup (ps ++ qs)) h
        | false => .no 7) m H Q := k
      cases e : sizeOk (ps.length + qs.length) with
      | false => rw [e] at k; exact k.elim
      | true =>
        rw [e] at k
        have hz := sizeOk_le e
        refine .inr (.inl ⟨a, b, vs, ws, rfl, rfl, ha, hb, by rw [← rs.length, ← rt.length]; exact hz, fun ev => ?_, fun _ ew => ?_, fun _ _ p hp => ?_⟩)
        · subst ev
          cases rs
          exact k.give r (.tup hb rt)
        · subst ew
          cases rt
          rw [List.append_nil] at k
          exact k.give r (.tup ha rs)
        · exact k.tup r (rs.append rt) hp
    | _ => exact k.elim
  | str s =>
    cases q with
    | str t =>
      have k : OkE K cl fn (match sizeOk (strLen s + strLen t) with
        | true => .ok (.str (s ++ t)) h
        | false => .no 6) m H Q := k
      cases e : sizeOk (strLen s + strLen t) with
      | false => rw [e] at k; exact k.elim
      | true =>
        rw [e] at k
        cases vp; cases vq
        exact .inr (.inr (.inl ⟨s, t, rfl, rfl, sizeOk_le e, k.give r (.str _)⟩))
    | _ => exact k.elim
  | ref n =>
    cases q with
    | ref n2 =>
      obtain ⟨a, rfl, ha⟩ := vp.ref_inv
      obtain ⟨b, rfl, hb⟩ := vq.ref_inv
      have k : OkE K cl fn (match h.get n, h.get n2 with
        | some (.lst xs), some (.lst ys) => match sizeOk (xs.length + ys.length) with
          | true => newOb (.lst (xs ++ ys)) h
          | false => .no 8
        | _, _ => .no 9) m H Q := k
      cases e1 : h.get n with
      | none => rw [e1] at k; exact k.elim
      | some o1 =>
        cases o1 with
        | lst xs =>
          cases e2 : h.get n2 with
          | none => rw [e1, e2] at k; exact k.elim
          | some o2 =>
            cases o2 with
            | lst ys =>
              rw [e1, e2] at k
              have k : OkE K cl fn (match sizeOk (xs.length + ys.length) with
                | true => newOb (.lst (xs ++ ys)) h
                | false => .no 8) m H Q := k
              cases e : sizeOk (xs.length + ys.length) with
              | false => rw [e] at k; exact k.elim
              | true =>
                rw [e] at k
                obtain ⟨vs, h1, r1⟩ := r.lst e1 ha
                obtain ⟨ws, h2, r2⟩ := r.lst e2 hb
                exact .inr (.inr (.inr ⟨a, b, vs, ws, rfl, rfl, h1, h2, by rw [← r1.length, ← r2.length]; exact sizeOk_le e, fun p hp => k.lst r (r1.append r2) hp⟩))
            | _ => rw [e1, e2] at k; exact k.elim
        | _ => rw [e1] at k; exact k.elim
    | _ => exact k.elim
  | _ => cases q <;> exact k.elim
theorem ov_sub {K : PySem.W.Frag} : OpV K cl fn (bopV .sub) (rI0 fun i j => .int (i - j)) := by
  intro m H h p q x y Q r vp vq k
  have k : OkE K cl fn (bSub p q h) m H Q := k
  cases p with
  | int i =>
    cases q with
    | int j => cases vp; cases vq; exact ⟨i, j, rfl, rfl, k.give r (.int _)⟩
    | _ => exact k.elim
  | _ => cases q <;> exact k.elim
theorem bound64_ok {i : Int} (e : bound64 i = true) : -(2 ^ 64) < i ∧ i < 2 ^ 64 := by
  cases i with
  | ofNat n =>
    have : n + 1 ≤ 18446744073709551616 := Nat.le_of_ble_eq_true e
    constructor <;> simp only [Int.ofNat_eq_natCast] <;> omega
  | negSucc n =>
    have : n + 1 + 1 ≤ 18446744073709551616 := Nat.le_of_ble_eq_true e
    constructor <;> omega
theorem bound62_ok {i : Int} (e : bound62 i = true) : -(2 ^ 62) ≤ i ∧ i < 2 ^ 62 := by
  cases i with
  | ofNat n =>
    have : n + 1 ≤ 4611686018427387904 := Nat.le_of_ble_eq_true e
    constructor <;> simp only [Int.ofNat_eq_natCast] <;> omega
  | negSucc n =>
    have : n + 1 ≤ 4611686018427387904 := Nat.le_of_ble_eq_true e
    constructor <;> omega
abbrev rMulAll (K : PySem.W.Frag) : R2 := fun x y H Q => (rI CMul (fun i j => .int (i * j)) x y H Q ∨ rRep x y H Q) ∨ rRepTA K x y H Q
theorem or_mul : OpR X (binaryOp .Mult) (rMulAll X.K) := (op_mul.or op_rep).or op_repTA
theorem VRs.flat_rep {K : PySem.W.Frag} {m : List Addr} {H : Hp} {ps : List PV} {vs : List V} (r : VRs K m H ps vs) : ∀ n : Nat, VRs K m H (List.replicate n ps).flatten (List.replicate n vs).flatten
  | 0 => .nil
  | n + 1 => by
    rw [List.replicate_succ, List.replicate_succ, List.flatten_cons, List.flatten_cons]
    exact r.append (VRs.flat_rep r n)
theorem rep_nil {α : Type} : ∀ n : Nat, (List.replicate n ([] : List α)).flatten = []
  | 0 => rfl
  | n + 1 => by rw [List.replicate_succ, List.flatten_cons, rep_nil n]; rfl
theorem ov_mul {K : PySem.W.Frag} : OpV K cl fn (bopV .mul) (rMulAll K) := by
  intro m H h p q x y Q r vp vq k
  have k : OkE K cl fn (bMul p q h) m H Q := k
  cases q with
  | int j =>
    cases p with
    | int i =>
      have k : OkE K cl fn (match bound64 i || bound64 j with
        | true => .ok (.int (i * j)) h
        | false => .no 2) m H Q := k
      cases e : bound64 i || bound64 j with
      | false => rw [e] at k; exact k.elim
      | true =>
        rw [e] at k
        cases vp; cases vq
        refine .inl (.inl ⟨i, j, rfl, rfl, ?_, k.give r (.int _)⟩)
        rcases Bool.or_eq_true_iff.mp e with z | z
        · exact .inl (bound64_ok z)
        · exact .inr (bound64_ok z)
    | tup xs =>
      obtain ⟨a, vs, rfl, h1, h2⟩ := vp.tup_inv
      cases vq
      have k : OkE K cl fn (match bound62 j && sizeOk (xs.length * j.toNat) with
        | true => .ok (.tup (List.replicate j.toNat xs).flatten) h
        | false => .no 10) m H Q := k
      cases e : bound62 j && sizeOk (xs.length * j.toNat) with
      | false => rw [e] at k; exact k.elim
      | true =>
        rw [e] at k
        obtain ⟨z1, z2⟩ := Bool.and_eq_true_iff.mp e
        obtain ⟨b1, b2⟩ := bound62_ok z1
        refine .inr ⟨a, j, vs, rfl, rfl, h1, by omega, by omega, by rw [← h2.length]; exact sizeOk_le z2, fun hsame => ?_, fun _ _ p hp => OkE.tup k r (h2.flat_rep _) hp⟩
        have es : (List.replicate j.toNat xs).flatten = xs := by
          rcases hsame with hsame | hsame
          · have : xs = [] := by
              cases h2 with
              | nil => rfl
              | cons _ _ => cases hsame
            rw [this]; exact rep_nil _
          · rw [hsame]; simp
        have k : OkE K cl fn (.ok (.tup (List.replicate j.toNat xs).flatten) h) m H Q := k
        rw [es] at k
        exact k.give r (.tup h1 h2)
    | ref n =>
      obtain ⟨a, rfl, ha⟩ := vp.ref_inv
      cases vq
      have k : OkE K cl fn (match h.get n with
        | some (.lst xs) => match bound62 j && sizeOk (xs.length * j.toNat) with
          | true => newOb (.lst (List.replicate j.toNat xs).flatten) h
          | false => .no 10
        | _ => .no 11) m H Q := k
      cases e1 : h.get n with
      | none => rw [e1] at k; exact k.elim
      | some o1 =>
        cases o1 with
        | lst xs =>
          rw [e1] at k
          have k : OkE K cl fn (match bound62 j && sizeOk (xs.length * j.toNat) with
            | true => newOb (.lst (List.replicate j.toNat xs).flatten) h
            | false => .no 10) m H Q := k
          cases e : bound62 j && sizeOk (xs.length * j.toNat) with
          | false => rw [e] at k; exact k.elim
          | true =>
            rw [e] at k
            obtain ⟨z1, z2⟩ := Bool.and_eq_true_iff.mp e
            obtain ⟨b1, b2⟩ := bound62_ok z1
            obtain ⟨vs, h1, r1⟩ := r.lst e1 ha
            refine .inl <| .inr ⟨a, j, vs, rfl, rfl, h1, by omega, by omega, by rw [← r1.length]; exact sizeOk_le z2, fun p hp => k.lst r (r1.flat_rep _) hp⟩
        | _ => rw [e1] at k; exact k.elim
    | _ => exact k.elim
  | _ => exact k.elim
theorem isZ_ne {j : Int} (e : isZ j = false) : j ≠ 0 := by
  rintro rfl
  cases e
theorem ov_mod {K : PySem.W.Frag} : OpV K cl fn (bopV .mod) (rI (fun _ j => j ≠ 0) fun i j => .int (i.fmod j)) := by
  intro m H h p q x y Q r vp vq k
  have k : OkE K cl fn (bMod p q h) m H Q := k
  cases p with
  | int i =>
    cases q with
    | int j =>
      have k : OkE K cl fn (match isZ j with
        | true => .no 3
        | false => .ok (.int (i.fmod j)) h) m H Q := k
      cases e : isZ j with
      | true => rw [e] at k; exact k.elim
      | false =>
        rw [e] at k
        cases vp; cases vq
        exact ⟨i, j, rfl, rfl, isZ_ne e, k.give r (.int _)⟩
    | _ => exact k.elim
  | _ => cases q <;> exact k.elim
theorem ov_div {K : PySem.W.Frag} : OpV K cl fn (bopV .fdiv) (rI CDivN fun i j => .int (i.fdiv j)) := by
  intro m H h p q x y Q r vp vq k
  have k : OkE K cl fn (bDiv p q h) m H Q := k
  cases p with
  | int i =>
    cases q with
    | int j =>
      have k : OkE K cl fn (match !isZ j && Nat.blt j.natAbs 1073741824 with
        | true => .ok (.int (i.fdiv j)) h
        | false => .no 4) m H Q := k
      cases e : !isZ j && Nat.blt j.natAbs 1073741824 with
      | false => rw [e] at k; exact k.elim
      | true =>
        rw [e] at k
        cases vp; cases vq
        obtain ⟨z1, z2⟩ := Bool.and_eq_true_iff.mp e
        refine ⟨i, j, rfl, rfl, ⟨isZ_ne (by simpa using z1), ?_⟩, k.give r (.int _)⟩
        exact Nat.le_of_ble_eq_true z2
    | _ => exact k.elim
  | _ => cases q <;> exact k.elim
theorem bound64_abs {i : Int} (e : bound64 i = true) : i.natAbs < 2 ^ 64 := by
  obtain ⟨h1, h2⟩ := bound64_ok e
  omega
theorem ov_pow {K : PySem.W.Frag} : OpV K cl fn (bopV .pow) (rI CPow fun i j => .int (i ^ j.toNat)) := by
  intro m H h p q x y Q r vp vq k
  have k : OkE K cl fn (bPow p q h) m H Q := k
  cases p with
  | int i =>
    cases q with
    | int j =>
      cases j with
      | ofNat n =>
        have k : OkE K cl fn (match bound64 i && Nat.ble n 1000 with
          | true => .ok (.int (i ^ n)) h
          | false => .no 5) m H Q := k
        cases e : bound64 i && Nat.ble n 1000 with
        | false => rw [e] at k; exact k.elim
        | true =>
          rw [e] at k
          cases vp; cases vq
          obtain ⟨z1, z2⟩ := Bool.and_eq_true_iff.mp e
          have := Nat.le_of_ble_eq_true z2
          refine ⟨i, .ofNat n, rfl, rfl, ⟨Int.natCast_nonneg n, ?_, bound64_abs z1⟩, k.give r (.int _)⟩
          show (n : Int) ≤ 1000000
          omega
      | negSucc n => exact k.elim
    | _ => exact k.elim
  | _ => cases q <;> exact k.elim
/-- all of them -/
theorem bop_ok {op : Operator} {o : Bop} (e : bopOf op = some o) : ∃ r, OpR X (binaryOp op) r ∧ OpV X.K cl fn (bopV o) r := by
  cases op <;> first | cases e | skip
  · exact ⟨_, or_add, ov_add⟩
  · exact ⟨_, op_sub, ov_sub⟩
  · exact ⟨_, or_mul, ov_mul⟩
  · exact ⟨_, op_modN, ov_mod⟩
  · exact ⟨_, op_pow, ov_pow⟩
  · exact ⟨_, op_fdivN, ov_div⟩
end
end Ev

set_option Elab.async false
set_option linter.all false
set_option maxRecDepth 100000
/-! EvD1: dicts: asked, stored into. -/
namespace Ev
open PySem PySem.Spec PyProof.Rows L2

/-! ### entries of the layer -/
def valN (xs : List (NestedKey × Addr × V)) (k : NestedKey) : Option V := (xs.find? fun x => decide (x.1 = k)).map (·.2.2)
def putN (xs : List (NestedKey × Addr × V)) (k : NestedKey) (b : Addr) (v : V) : List (NestedKey × Addr × V) := match valN xs k with
  | some _ => xs.map fun x => if x.1 = k then (x.1, x.2.1, v) else x
  | none => xs ++ [(k, b, v)]
theorem valN_cons {x : NestedKey × Addr × V} {xs : List (NestedKey × Addr × V)} {k : NestedKey} : valN (x :: xs) k = if x.1 = k then some x.2.2 else valN xs k := by
  unfold valN
  rw [List.find?_cons]
  by_cases e : x.1 = k
  · simp [e]
  · simp [e]
theorem atKey_cons {x : NestedKey × Addr × Value} {xs : List (NestedKey × Addr × Value)} {k : NestedKey} : atKey (x :: xs) k = if x.1 = k then some x.2 else atKey xs k := by
  unfold atKey
  rw [List.find?_cons]
  by_cases e : x.1 = k
  · simp [e]
  · simp [e]
theorem KX.val : ∀ {xs : List (NestedKey × Addr × V)} {ys : List (NestedKey × Addr × Value)}, KX xs ys → ∀ k, RelO (valN xs k) ((atKey ys k).map (·.2))
  | _, _, .nil, k => trivial
  | _, _, .cons (a := x) (b := y) r t, k => by
    rw [valN_cons, atKey_cons, ← r.1]
    by_cases e : x.1 = k
    · rw [if_pos e, if_pos e]; exact r.2.2
    · rw [if_neg e, if_neg e]; exact KX.val t k
theorem any_atKey (ys : List (NestedKey × Addr × Value)) (k : NestedKey) : (ys.any fun x => decide (x.1 = k)) = (atKey ys k).isSome := by
  induction ys with
  | nil => rfl
  | cons y ys ih =>
    rw [List.any_cons, ih, atKey_cons]
    by_cases e : y.1 = k
    · simp [e]
    · simp [e]
theorem KX.put {xs : List (NestedKey × Addr × V)} {ys : List (NestedKey × Addr × Value)} (r : KX xs ys) (k : NestedKey) (b : Addr) {v : V} {u : Value} (rv : RelV v u) : KX (putN xs k b v) (storedH ys k b u) := by
  have hv := r.val k
  unfold putN storedH
  cases z : valN xs k with
  | some w =>
    rw [z] at hv
    have : (atKey ys k).isSome = true := by
      cases z2 : atKey ys k with
      | none => rw [z2] at hv; exact hv.elim
      | some p => rfl
    rw [if_pos this]
    simp only []
    clear hv z this
    induction r with
    | nil => exact .nil
    | @cons x y xs ys hx t ih =>
      refine .cons ?_ ih
      unfold putAt
      dsimp only
      by_cases e : x.1 = k
      · rw [if_pos e, if_pos (by rw [← hx.1]; exact e)]; exact ⟨hx.1, hx.2.1, rv⟩
      · rw [if_neg e, if_neg (by rw [← hx.1]; exact e)]; exact hx
  | none =>
    rw [z] at hv
    have : (atKey ys k).isSome = false := by
      cases z2 : atKey ys k with
      | none => rfl
      | some p => rw [z2] at hv; exact hv.elim
    rw [if_neg (by rw [this]; simp)]
    exact Paired.snoc r ⟨rfl, rfl, rv⟩

/-- the tuple at b is the key k -/
def KeyV (K : PySem.W.Frag) (H : Hp) (k : NestedKey) (b : Addr) : Prop := ∃ m p, VR K m H p (.ref b) ∧ isTupV p = true ∧ pureV 8 p = true ∧ nk p = k
section
variable {X : Cx} {pins : List (Addr × Obj)} {σ : L2.St} {H : Hp} {s : Shared}
mutual
theorem vr_nested (I : Inv X pins σ H s) {m : List Addr} : ∀ (d : Nat) {p : PV} {v : V} {u : Value}, VR X.K m H p v → pureV d p = true → RelV v u → NestedIs s.heap (nk p) u
  | d, _, _, _, .non, _, r => by cases r; exact .none
  | d, _, _, _, .bl b, _, r => by cases r; exact .bool (by cases b <;> rfl)
  | d, _, _, _, .int i, _, r => by obtain ⟨t, rfl⟩ := r; exact .int i t
  | d, _, _, _, .str x, _, r => by obtain ⟨t, rfl⟩ := r; exact .text x t
  | 0, _, _, _, .tup h hs, e, r => by cases e
  | d + 1, _, _, _, .tup (xs := xs) h hs, e, r => by
    cases r
    obtain ⟨its, rv, ⟨o, h1, h2, n, h3⟩, _⟩ := I.tuple h
    exact .tup h1 h2 h3 (by simpa using vrs_nested I d hs e rv)
  | 0, _, _, _, .fro h hs, e, r => by cases e
  | d + 1, _, _, _, .fro h hs, e, r => by cases e
  | 0, _, _, _, .ref h, e, r => by cases e
  | d + 1, _, _, _, .ref h, e, r => by cases e
theorem vrs_nested (I : Inv X pins σ H s) {m : List Addr} : ∀ (d : Nat) {ps : List PV} {vs : List V} {us : List Value}, VRs X.K m H ps vs → allP (pureV d) ps = true → Vals vs us → NestedAll s.heap (nks ps) us
  | d, _, _, _, .nil, _, .nil => .nil
  | d, _, _, _, .cons h hs, e, .cons r rs => .cons (vr_nested I d h (allPc e).1 r) (vrs_nested I d hs (allPc e).2 rs)
end
theorem KeyV.is (I : Inv X pins σ H s) {k : NestedKey} {b : Addr} (h : KeyV X.K H k b) : (nestedKind X.prog X.w).is s.heap k b := by
  obtain ⟨m, p, h1, h2, h3, h4⟩ := h
  refine ⟨?_, ?_⟩
  · rw [← h4]; exact vr_nested I 8 h1 h3 rfl
  · rw [← h4]; exact nk_depth 8 p h3
theorem KeyV.gro {K : PySem.W.Frag} {H H' : Hp} {k : NestedKey} {b : Addr} (ht : ∀ a xs, H a = some (.tup xs) → H' a = some (.tup xs)) (hf : ∀ a o u, H a = some (.frz o u) → H' a = some (.frz o u)) (h : KeyV K H k b) : KeyV K H' k b := by
  obtain ⟨m, p, h1, h2⟩ := h
  exact ⟨m, p, h1.gro ⟨fun _ _ h => h, ht, hf⟩, h2⟩
/-! ### a dict read -/
/-- what stands at a dict's place is a dict of tuple keys -/
def IsN (w : World) (a : Addr) (xs : List (NestedKey × Addr × V)) (u : HO) : Prop := u = XN w a xs ∨ (xs = [] ∧ u = .dK [])
theorem isN_ok (I : Inv X pins σ H s) {a : Addr} {u : HO} {xs : List (NestedKey × Addr × V)} (e : Rd H a u) (hu : IsN X.w a xs u) (hk : ∀ x ∈ xs, KeyV X.K H x.1 x.2.1) :
    xs.length ≤ sizeLine ∧ (a == sysModules) = false ∧ ∃ ys, KX xs ys ∧ s.heap.DictOfH (nestedKind X.prog X.w) a ys := by
  rcases hu with rfl | ⟨rfl, rfl⟩
  · obtain ⟨⟨hz, hs, ys, r, o, es, ep, h1, h2, h3, h4, h5⟩, _⟩ := (show ObjOk X.prog X.w H s.heap a (XN X.w a xs) from rd_of I.hok e)
    refine ⟨hz, hs, ys, r, o, es, ep, h1, h2, h3, h4, fun y hy => ?_, h5⟩
    have all : ∀ {l : List (NestedKey × Addr × V)} {l' : List (NestedKey × Addr × Value)}, KX l l' → (∀ x ∈ l, KeyV X.K H x.1 x.2.1) → ∀ y ∈ l', (nestedKind X.prog X.w).is s.heap y.1 y.2.1 := by
      intro l l' q
      induction q with
      | nil => intro _ y hy; exact nomatch hy
      | @cons p q ps qs hq t ih =>
        intro hk y hy
        rcases List.mem_cons.mp hy with e | hy
        · subst e
          have := hk p (List.mem_cons_self ..)
          rw [← hq.1, ← hq.2.1]
          exact this.is I
        · exact ih (fun x hx => hk x (List.mem_cons_of_mem _ hx)) y hy
    exact all r hk y hy
  · obtain ⟨z, hd, vs, rel, o, es, ep, h1, h2, h3, h4, h5⟩ := dk_rd I.hok e
    cases rel
    refine ⟨Nat.zero_le _, hd, [], .nil, o, es, ep, h1, h2, h3, ?_, fun x hx => (by cases hx), (by simp)⟩
    obtain ⟨h5, _⟩ := h5
    cases hl : es.toList with
    | nil => rfl
    | cons e es => rw [hl] at h5; cases h5
/-- what the dict at a holds at the key y -/
def DG (K : PySem.W.Frag) (w : World) (H : Hp) (a : Addr) (y : V) (o : Option V) : Prop :=
  (∃ ls k, Rd H a (.dK ls) ∧ y = kV k ∧ o = valV ls k) ∨ ∃ u xs k b, Rd H a u ∧ IsN w a xs u ∧ y = .ref b ∧ KeyV K H k b ∧ (∀ x ∈ xs, KeyV K H x.1 x.2.1) ∧ o = valN xs k
theorem room_n {A : Around} (hu : A.units + 64 < cLine) : (nestedKind X.prog X.w).room A.in1 := by
  show A.in1.units + 8 < cLine
  rw [Around.in1_units]
  omega
variable {A : Around} {E : Value → Shared → Prop} {a : Addr} {y v : V} {u r : Value} {o : Option V}
theorem DG.typeIs (I : Inv X pins σ H s) (g : DG X.K X.w H a y o) : s.TypeIs (.ref a) "dict" ∧ (∀ b, Value.ref a = .ref b → ∃ ob, s.heap.get? b = some ob ∧ ob.dict = none) := by
  rcases g with ⟨ls, k, e, _, _⟩ | ⟨u', xs, k, b, e, n, _, _, hk, _⟩
  · obtain ⟨_, _, vs, _, dd⟩ := dk_rd I.hok e
    refine ⟨dd.typeIs, fun b q => ?_⟩
    cases q
    obtain ⟨ob, _, _, h1, h2, _⟩ := dd
    exact ⟨ob, h1, h2.2.1⟩
  · obtain ⟨_, _, ys, _, dd⟩ := isN_ok I e n hk
    refine ⟨dd.typeIs, fun b q => ?_⟩
    cases q
    obtain ⟨ob, _, _, h1, h2, _⟩ := dd
    exact ⟨ob, h1, h2.2.1⟩
theorem g_getItem {Q : Value → Shared → Prop} (hu : A.units + 64 < cLine) (I : Inv X pins σ H s) (g : DG X.K X.w H a y (some v)) (ry : RelV y u) (h : ∀ w' s', Inv X pins σ H s' → RelV v w' → Q w' s') :
    wpAny (model X.prog X.w) A (getItem (.ref a) u) Q E s := by
  rcases g with ⟨kvs, k, e, ey, l⟩ | ⟨u', xs, k, b, e, n, ey, eb, hk, l⟩
  · subst ey
    obtain ⟨z, hd, vs, rel, dd⟩ := dk_rd I.hok e
    obtain ⟨w', hw, rw'⟩ := RelO.some_of (v := v) (o := valueAt vs k) (by rw [l]; exact rel.val k)
    exact wpAny_getItem_of (kV_is ry) dd.mapOf hw (h w' _ (I.tok _) rw')
  · subst ey
    cases (show u = Value.ref b from ry)
    obtain ⟨z, hd, ys, rel, dd⟩ := isN_ok I e n hk
    obtain ⟨w', hw, rw'⟩ := RelO.some_of (v := v) (o := (atKey ys k).map (·.2)) (by rw [l]; exact rel.val k)
    obtain ⟨p, hp, hp2⟩ := Option.map_eq_some_iff.mp hw
    refine wpAny_getItem_heap (room_n (X := X) hu) (eb.is I) dd hp ?_
    rw [hp2]
    exact h w' _ (I.tok _) rw'
theorem g_in {Q : Value → Shared → Prop} (hu : A.units + 64 < cLine) (I : Inv X pins σ H s) (g : DG X.K X.w H a y o) (ry : RelV y u) (h : ∀ s', Inv X pins σ H s' → Q (.bool o.isSome) s') :
    wpAny (model X.prog X.w) A (compareOp .In u (.ref a)) Q E s := by
  rcases g with ⟨kvs, k, e, ey, l⟩ | ⟨u', xs, k, b, e, n, ey, eb, hk, l⟩
  · subst ey
    obtain ⟨z, hd, vs, rel, dd⟩ := dk_rd I.hok e
    refine wpAny_in_of (kV_is ry) hd dd.mapOf ?_
    rw [← (rel.val k).isSome_eq, ← l]
    exact h _ (I.tok _)
  · subst ey
    cases (show u = Value.ref b from ry)
    obtain ⟨z, hd, ys, rel, dd⟩ := isN_ok I e n hk
    refine wpAny_in_heap (room_n (X := X) hu) (eb.is I) hd dd ?_
    have q := (rel.val k).isSome_eq
    rw [Option.isSome_map] at q
    rw [← q, ← l]
    exact h _ (I.tok _)
theorem g_notIn {Q : Value → Shared → Prop} (hu : A.units + 64 < cLine) (I : Inv X pins σ H s) (g : DG X.K X.w H a y o) (ry : RelV y u) (h : ∀ s', Inv X pins σ H s' → Q (.bool (!o.isSome)) s') :
    wpAny (model X.prog X.w) A (compareOp .NotIn u (.ref a)) Q E s := by
  rcases g with ⟨kvs, k, e, ey, l⟩ | ⟨u', xs, k, b, e, n, ey, eb, hk, l⟩
  · subst ey
    obtain ⟨z, hd, vs, rel, dd⟩ := dk_rd I.hok e
    refine wpAny_notIn_of (kV_is ry) hd dd.mapOf ?_
    rw [← (rel.val k).isSome_eq, ← l]
    exact h _ (I.tok _)
  · subst ey
    cases (show u = Value.ref b from ry)
    obtain ⟨z, hd, ys, rel, dd⟩ := isN_ok I e n hk
    refine wpAny_notIn_heap (room_n (X := X) hu) (eb.is I) hd dd ?_
    have q := (rel.val k).isSome_eq
    rw [Option.isSome_map] at q
    rw [← q, ← l]
    exact h _ (I.tok _)
theorem g_get1 {Q : Value → Shared → Prop} (hu : A.units + 64 < cLine) (I : Inv X pins σ H s) (g : DG X.K X.w H a y o) (ry : RelV y u) (h : ∀ w' s', Inv X pins σ H s' → RelV (o.getD .non) w' → Q w' s') :
    wpAny (model X.prog X.w) A (call (.builtin "dict.get") [.ref a, u]) Q E s := by
  rcases g with ⟨kvs, k, e, ey, l⟩ | ⟨u', xs, k, b, e, n, ey, eb, hk, l⟩
  · subst ey
    obtain ⟨z, hd, vs, rel, dd⟩ := dk_rd I.hok e
    refine call_meetsIn PySem.F.slot_dict_get dd.typeIs PySem.F.entry_dict_get (PySem.F.args_dict_get_2 _ _) (meets_dict_get (mixKind X.prog X.w) a (kV_is ry) hd) ⟨_, dd.mapOf, h _ _ (I.tok _) ?_⟩
    rw [l]
    exact (rel.val k).getD rfl
  · subst ey
    cases (show u = Value.ref b from ry)
    obtain ⟨z, hd, ys, rel, dd⟩ := isN_ok I e n hk
    refine call_meetsIn PySem.F.slot_dict_get dd.typeIs PySem.F.entry_dict_get (PySem.F.args_dict_get_2 _ _) (meetsH_dict_get (nestedKind X.prog X.w) a b hd) ⟨room_n (X := X) hu, k, ys, eb.is I, dd, h _ _ (I.tok _) ?_⟩
    rw [l]
    exact (rel.val k).getD rfl
theorem g_get2 {d : V} {Q : Value → Shared → Prop} (hu : A.units + 64 < cLine) (I : Inv X pins σ H s) (g : DG X.K X.w H a y o) (ry : RelV y u) (rd : RelV d r) (h : ∀ w' s', Inv X pins σ H s' → RelV (o.getD d) w' → Q w' s') :
    wpAny (model X.prog X.w) A (call (.builtin "dict.get") [.ref a, u, r]) Q E s := by
  rcases g with ⟨kvs, k, e, ey, l⟩ | ⟨u', xs, k, b, e, n, ey, eb, hk, l⟩
  · subst ey
    obtain ⟨z, hd, vs, rel, dd⟩ := dk_rd I.hok e
    refine call_meetsIn PySem.F.slot_dict_get dd.typeIs PySem.F.entry_dict_get (PySem.F.args_dict_get_3 _ _ _) (meets_dict_get_default (mixKind X.prog X.w) a (kV_is ry) hd r) ⟨_, dd.mapOf, h _ _ (I.tok _) ?_⟩
    rw [l]
    exact (rel.val k).getD rd
  · subst ey
    cases (show u = Value.ref b from ry)
    obtain ⟨z, hd, ys, rel, dd⟩ := isN_ok I e n hk
    refine call_meetsIn PySem.F.slot_dict_get dd.typeIs PySem.F.entry_dict_get (PySem.F.args_dict_get_3 _ _ _) (meetsH_dict_get_default (nestedKind X.prog X.w) a b hd r) ⟨room_n (X := X) hu, k, ys, eb.is I, dd, h _ _ (I.tok _) ?_⟩
    rw [l]
    exact (rel.val k).getD rd
/-! ### a dict stored into -/
/-- the heap behind a[y] = v -/
def DP (K : PySem.W.Frag) (w : World) (H : Hp) (a : Addr) (y v : V) (H' : Hp) : Prop :=
  (∃ ls k, H a = some (.dK ls) ∧ y = kV k ∧ ls.length < sizeLine ∧ H' = upd H a (.dK (L2.putK ls k v))) ∨
  ∃ u xs k b, H a = some u ∧ IsN w a xs u ∧ y = .ref b ∧ KeyV K H k b ∧ (∀ x ∈ xs, KeyV K H x.1 x.2.1) ∧ xs.length < sizeLine ∧ H' = upd H a (XN w a (putN xs k b v))
theorem putN_len (xs : List (NestedKey × Addr × V)) (k : NestedKey) (b : Addr) (v : V) : (putN xs k b v).length ≤ xs.length + 1 := by
  unfold putN
  cases valN xs k with
  | some w => simp only []; rw [List.length_map]; omega
  | none => simp only []; rw [List.length_append]; simp
theorem isN_mut {w : World} {xs : List (NestedKey × Addr × V)} {u : HO} (h : IsN w a xs u) : Mut (some u) := by
  rcases h with rfl | ⟨_, rfl⟩ <;> exact True.intro
theorem xn_new {P : Program} {w : World} {H' : Hp} {h' : Heap} {xs : List (NestedKey × Addr × V)} {ys : List (NestedKey × Addr × Value)} (z : xs.length ≤ sizeLine) (hd : (a == sysModules) = false) (rel : KX xs ys) (dd : h'.DictOfH (nestedKind P w) a ys) : ObjOk P w H' h' a (XN w a xs) := by
  obtain ⟨q, es, ep, hq, h2, h3, h4, _, h5⟩ := dd
  refine ⟨⟨z, hd, ys, rel, q, es, ep, hq, h2, h3, h4, h5⟩, ⟨q, hq⟩, fun h1 h2' p st => ?_⟩
  obtain ⟨z, hd, ys, rel, q, es, ep, hq, r⟩ := p
  exact ⟨z, hd, ys, rel, q, es, ep, st q hq, r⟩
theorem p_setItem {H' : Hp} {Q : Unit → Shared → Prop} (hu : A.units + 64 < cLine) (I : Inv X pins σ H s) (g : DP X.K X.w H a y v H') (ry : RelV y u) (rv : RelV v r) (h : ∀ s', Inv X pins σ H' s' → Q () s') :
    wpAny (model X.prog X.w) A (setItem (.ref a) u r) Q E s := by
  rcases g with ⟨kvs, k, e, ey, l, eH⟩ | ⟨u', xs, k, b, e, n, ey, eb, hk, l, eH⟩
  · subst ey eH
    obtain ⟨z, hd, vs, rel, dd⟩ := dk_of I.hok e
    have hz : vs.length ≤ sizeLine := by rw [← rel.length]; exact z
    have hl : (L2.putK kvs k v).length ≤ sizeLine := by have := length_putK kvs k v; omega
    refine wpAny_setItem_pairs (hsz := hz) (kV_is ry) dd fun h' dd' hs => h _ ?_
    have he : ∃ q, h'.get? a = some q := let ⟨q, _, _, hq, _⟩ := dd'; ⟨q, hq⟩
    exact d_write I (by rw [e]; exact True.intro) hs he (dk_new hl hd (rel.put k rv) dd')
  · subst ey eH
    cases (show u = Value.ref b from ry)
    obtain ⟨z, hd, ys, rel, dd⟩ := isN_ok I (.inl e) n hk
    have hz : ys.length ≤ sizeLine := by rw [← Paired.length rel]; exact z
    have hl : (putN xs k b v).length ≤ sizeLine := by have := putN_len xs k b v; omega
    refine wpAny_setItem_heap (hsz := hz) (room_n (X := X) hu) (eb.is I) dd fun h' dd' hs => h _ ?_
    have he : ∃ q, h'.get? a = some q := let ⟨q, _, _, hq, _⟩ := dd'; ⟨q, hq⟩
    exact d_write I (by rw [e]; exact isN_mut n) hs he (xn_new hl hd (rel.put k b rv) dd')
/-- d.setdefault(y, v): v is stored if nothing is there -/
theorem p_setdefault {Q : Value → Shared → Prop} (hu : A.units + 64 < cLine) (I : Inv X pins σ H s) (ry : RelV y u) (rv : RelV v r)
    (g : (∃ ls k, H a = some (.dK ls) ∧ y = kV k ∧ (∀ z, valV ls k = some z → ∀ w' s', Inv X pins σ H s' → RelV z w' → Q w' s') ∧ (valV ls k = none → ls.length < sizeLine ∧ ∀ s', Inv X pins σ (upd H a (.dK (L2.putK ls k v))) s' → Q r s')) ∨
      ∃ u xs k b, H a = some u ∧ IsN X.w a xs u ∧ y = .ref b ∧ KeyV X.K H k b ∧ (∀ x ∈ xs, KeyV X.K H x.1 x.2.1) ∧ (∀ z, valN xs k = some z → ∀ w' s', Inv X pins σ H s' → RelV z w' → Q w' s') ∧ (valN xs k = none → xs.length < sizeLine ∧ ∀ s', Inv X pins σ (upd H a (XN X.w a (putN xs k b v))) s' → Q r s')) :
    wpAny (model X.prog X.w) A (call (.builtin "dict.setdefault") [.ref a, u, r]) Q E s := by
  rcases g with ⟨kvs, k, e, ey, q1, q2⟩ | ⟨u', xs, k, b, e, n, ey, eb, hk, q1, q2⟩
  · subst ey
    obtain ⟨z, hd, vs, rel, dd⟩ := dk_of I.hok e
    have hz : vs.length ≤ sizeLine := by rw [← rel.length]; exact z
    refine call_meetsIn PySem.F.slot_dict_setdefault dd.typeIs PySem.F.entry_dict_setdefault (PySem.F.args_dict_setdefault_3 _ _ _) (kt_meets_setdefault (mixKind X.prog X.w) a (kV_is ry) hd r) ⟨vs, dd, hz, fun w' hw => ?_, fun hn h' dd' hs => ?_⟩
    · have rr := rel.val k
      rw [hw] at rr
      cases z2 : valV kvs k with
      | none => rw [z2] at rr; exact rr.elim
      | some x => rw [z2] at rr; exact q1 x z2 w' _ (I.tok _) rr
    · have rr := rel.val k
      rw [hn] at rr
      cases z2 : valV kvs k with
      | some x => rw [z2] at rr; exact rr.elim
      | none =>
        obtain ⟨l, q⟩ := q2 z2
        have hl : (L2.putK kvs k v).length ≤ sizeLine := by have := length_putK kvs k v; omega
        have he : ∃ q, h'.get? a = some q := let ⟨q, _, _, hq, _⟩ := dd'; ⟨q, hq⟩
        exact q _ (d_write I (by rw [e]; exact True.intro) hs he (dk_new hl hd (rel.put k rv) dd'))
  · subst ey
    cases (show u = Value.ref b from ry)
    obtain ⟨z, hd, ys, rel, dd⟩ := isN_ok I (.inl e) n hk
    have hz : ys.length ≤ sizeLine := by rw [← Paired.length rel]; exact z
    refine call_setdefault_heap (hsz := hz) (room_n (X := X) hu) (eb.is I) hd dd (fun p hp => ?_) fun hn h' dd' hs => ?_
    · have rr := rel.val k
      rw [hp] at rr
      cases z2 : valN xs k with
      | none => rw [z2] at rr; exact rr.elim
      | some x => rw [z2] at rr; exact q1 x z2 p.2 _ (I.tok _) rr
    · have rr := rel.val k
      rw [hn] at rr
      cases z2 : valN xs k with
      | some x => rw [z2] at rr; exact rr.elim
      | none =>
        obtain ⟨l, q⟩ := q2 z2
        have hl : (putN xs k b v).length ≤ sizeLine := by have := putN_len xs k b v; omega
        have he : ∃ q, h'.get? a = some q := let ⟨q, _, _, hq, _⟩ := dd'; ⟨q, hq⟩
        exact q _ (d_write I (by rw [e]; exact isN_mut n) hs he (xn_new hl hd (rel.put k b rv) dd'))
end

/-! ### the evaluator's dicts -/
theorem kP_ak (k : Key) : AK (kP k) = true := by cases k <;> rfl
theorem kP_keq (a b : Key) : keq 8 (kP a) (kP b) = decide (a = b) := by
  cases a with
  | inl i =>
    cases b with
    | inl j =>
      show intEq i j = _
      rw [intEq_eq]
      by_cases e : i = j
      · subst e; simp
      · simp [e]
    | inr y => simp [kP, keq]
  | inr x =>
    cases b with
    | inl j => simp [kP, keq]
    | inr y =>
      show strF x y = _
      rw [strF_eq]
      by_cases e : x = y
      · subst e; simp
      · simp [e]
section
variable {K : PySem.W.Frag} {cl : Nat → Addr} {fn : Nm} {m : List Addr} {H : Hp} {h : Hh}
/-- what is told by value is what is told in the layer -/
def LkR (K : PySem.W.Frag) (m : List Addr) (H : Hp) : Option PV → Option V → Prop
  | some p, o => ∃ v, o = some v ∧ VR K m H p v
  | none, o => o = none
theorem lf_look : ∀ {kvs : List (PV × PV)} {ls : List (Key × V)}, LfR K m H kvs ls → ∀ key : Key, LkR K m H (lookK (kP key) kvs) (valV ls key)
  | _, _, .nil, key => rfl
  | _, _, .cons (a := q) (b := x) r t, key => by
    rw [lookK_cons, r.1, kP_keq]
    by_cases e : x.1 = key
    · rw [decide_eq_true e, valV_pos e]
      exact ⟨_, rfl, r.2⟩
    · rw [decide_eq_false e, valV_neg e]
      exact lf_look t key
theorem nt_look {k : PV} (hk : AK k = true) : ∀ {kvs : List (PV × PV)} {xs : List (NestedKey × Addr × V)}, NtR K m H kvs xs → LkR K m H (lookK k kvs) (valN xs (nk k))
  | _, _, .nil => rfl
  | _, _, .cons (a := q) (b := x) r t => by
    have a1 : AK q.1 = true := by
      have h1 := r.1
      have h2 := r.2.1
      cases z : q.1 <;> rw [z] at h1 h2 <;> first | exact h2 | cases h1
    rw [lookK_cons, keq_ak a1 hk, valN_cons, r.2.2.1]
    by_cases e : nk q.1 = nk k
    · rw [decide_eq_true e, if_pos e]
      exact ⟨_, rfl, r.2.2.2.2⟩
    · rw [decide_eq_false e, if_neg e]
      exact nt_look hk t
theorem NtR.keys : ∀ {kvs : List (PV × PV)} {xs : List (NestedKey × Addr × V)}, NtR K m H kvs xs → ∀ x ∈ xs, KeyV K H x.1 x.2.1
  | _, _, .nil, _, h => by cases h
  | _, _, .cons r t, x, h => by
    rcases List.mem_cons.mp h with e | h
    · subst e
      exact ⟨m, _, r.2.2.2.1, r.1, r.2.1, r.2.2.1.symm⟩
    · exact NtR.keys t x h
theorem HR.dd (r : HR K cl fn m H h) {n : Nat} {a : Addr} {d : Dd} (e : ddOf h n = some d) (ha : m[n]? = some a) : ∃ kvs u, DR d kvs ∧ Rd H a u ∧ DO K fn.w m H a kvs u d.tk := by
  unfold ddOf at e
  cases z : h.get n with
  | none => rw [z] at e; cases e
  | some ob =>
    rw [z] at e
    obtain ⟨b, h1, h2⟩ := r.ob n _ z
    rw [ha] at h1
    cases h1
    cases ob with
    | dct d' =>
      cases e
      obtain ⟨kvs, u, x1, x2, x3⟩ := h2
      exact ⟨kvs, u, x1, .inl x2, x3⟩
    | dlk d' =>
      cases e
      obtain ⟨kvs, o, u, x1, x2, x3⟩ := h2
      exact ⟨kvs, u, x1, .inr ⟨o, x2⟩, x3⟩
    | _ => cases e
/-- a key, in the layer -/
theorem key_cases {k : PV} {y : V} (q : VR K m H k y) {d : Dd} (hk : d.kOk k = true) : (d.tk = false ∧ ∃ key, k = kP key ∧ y = kV key) ∨ ((d.tk = true ∨ d.n = 0) ∧ isTupV k = true ∧ pureV 8 k = true ∧ AK k = true ∧ ∃ b, y = .ref b ∧ KeyV K H (nk k) b) := by
  cases k with
  | int i => cases q; exact .inl ⟨by simpa [Dd.kOk] using hk, .inl i, rfl, rfl⟩
  | str x => cases q; exact .inl ⟨by simpa [Dd.kOk] using hk, .inr x, rfl, rfl⟩
  | tup xs =>
    have hk : ((d.tk || Nat.beq d.n 0) && pureV 8 (.tup xs)) = true := hk
    obtain ⟨h1, h2⟩ := Bool.and_eq_true_iff.mp hk
    obtain ⟨b, vs, rfl, _⟩ := q.tup_inv
    refine .inr ⟨?_, rfl, h2, h2, b, rfl, m, _, q, rfl, h2, rfl⟩
    rcases Bool.or_eq_true_iff.mp h1 with z | z
    · exact .inl z
    · exact .inr (Nat.eq_of_beq_eq_true z)
  | _ => cases hk
/-- a dict asked for a key -/
theorem HR.dg (r : HR K cl fn m H h) {n : Nat} {a : Addr} {d : Dd} {k : PV} {y : V} (e : ddOf h n = some d) (ha : m[n]? = some a) (hk : d.kOk k = true) (q : VR K m H k y) : ∃ o, DG K fn.w H a y o ∧ LkR K m H (d.look k) o := by
  obtain ⟨kvs, u, x1, x2, x3⟩ := r.dd e ha
  rw [x1.look]
  rcases key_cases q hk with ⟨t, key, rfl, rfl⟩ | ⟨t, c1, c2, c3, b, rfl, kv⟩
  · rw [t] at x3
    obtain ⟨ls, rfl, lf⟩ := x3
    exact ⟨valV ls key, .inl ⟨ls, key, x2, rfl, rfl⟩, lf_look lf key⟩
  · cases tk : d.tk with
    | true =>
      rw [tk] at x3
      obtain ⟨xs, rfl, nt⟩ := x3
      exact ⟨valN xs (nk k), .inr ⟨_, xs, nk k, b, x2, .inl rfl, rfl, kv, nt.keys, rfl⟩, nt_look c3 nt⟩
    | false =>
      rw [tk] at x3 t
      obtain ⟨ls, rfl, lf⟩ := x3
      have t : d.n = 0 := by
        rcases t with t | t
        · cases t
        · exact t
      have hn := x1.n
      rw [t] at hn
      cases kvs with
      | cons _ _ => cases hn
      | nil =>
        cases lf
        exact ⟨none, .inr ⟨_, [], nk k, b, x2, .inr ⟨rfl, rfl⟩, rfl, kv, fun x h => (by cases h), rfl⟩, rfl⟩
theorem lf_any {key : Key} : ∀ {kvs : List (PV × PV)} {ls : List (Key × V)}, LfR K m H kvs ls → (lookK (kP key) kvs).isSome = (ls.any fun kv => decide (kv.1 = key))
  | kvs, ls, r => by
    have h := lf_look r key
    rw [valV_any]
    cases z : lookK (kP key) kvs with
    | some p => rw [z] at h; obtain ⟨v, e, _⟩ := h; rw [e]; rfl
    | none => rw [z] at h; rw [show valV ls key = none from h]; rfl
theorem lf_repl {p : PV} {v : V} (hv : VR K m H p v) {key : Key} : ∀ {kvs : List (PV × PV)} {ls : List (Key × V)} {w : PV}, LfR K m H kvs ls → (ls.map (·.1)).Nodup → lookK (kP key) kvs = some w → LfR K m H (putK (kP key) p kvs) (ls.map fun kv => if kv.1 = key then (kv.1, v) else kv)
  | _, _, _, .nil, _, e => by cases e
  | _, _, w, .cons (a := q) (b := x) (l₁ := kvs) (l₂ := ls) r t, nd, e => by
    rw [lookK_cons, r.1, kP_keq] at e
    rw [putK_cons, r.1, kP_keq]
    rw [List.map_cons, List.nodup_cons] at nd
    by_cases c : x.1 = key
    · rw [decide_eq_true c]
      simp only []
      rw [List.map_cons, if_pos c]
      refine .cons ⟨rfl, hv⟩ ?_
      have id : (ls.map fun kv => if kv.1 = key then (kv.1, v) else kv) = ls := by
        rw [List.map_congr_left (g := id)]
        · simp
        · intro kv hkv
          have : ¬ kv.1 = key := fun z => nd.1 (by rw [c, ← z]; exact List.mem_map.mpr ⟨kv, hkv, rfl⟩)
          rw [if_neg this]; rfl
      rw [id]; exact t
    · rw [decide_eq_false c] at e ⊢
      simp only [] at e ⊢
      rw [List.map_cons, if_neg c]
      exact .cons r (lf_repl hv t nd.2 e)
theorem lf_keys : ∀ {kvs : List (PV × PV)} {ls : List (Key × V)}, LfR K m H kvs ls → (kvs.map fun q => nk q.1).Nodup → (ls.map (·.1)).Nodup
  | _, _, .nil, _ => by simp
  | _, _, .cons (a := q) (b := x) (l₁ := kvs) (l₂ := ls) r t, nd => by
    rw [List.map_cons, List.nodup_cons] at nd ⊢
    refine ⟨fun hm => nd.1 ?_, lf_keys t nd.2⟩
    obtain ⟨y, hy, ey⟩ := List.mem_map.mp hm
    have : ∀ {kvs : List (PV × PV)} {ls : List (Key × V)}, LfR K m H kvs ls → ∀ y ∈ ls, ∃ q ∈ kvs, q.1 = kP y.1 := by
      intro kvs ls z
      induction z with
      | nil => intro y h; cases h
      | cons r t ih =>
        intro y h
        rcases List.mem_cons.mp h with e | h
        · subst e; exact ⟨_, List.mem_cons_self .., r.1⟩
        · obtain ⟨q, h1, h2⟩ := ih y h
          exact ⟨q, List.mem_cons_of_mem _ h1, h2⟩
    obtain ⟨q', h1, h2⟩ := this t y hy
    exact List.mem_map.mpr ⟨q', h1, by rw [h2, r.1, ey]⟩
theorem LfR.put {p : PV} {v : V} (hv : VR K m H p v) {key : Key} {kvs : List (PV × PV)} {ls : List (Key × V)} (r : LfR K m H kvs ls) (nd : (kvs.map fun q => nk q.1).Nodup) : LfR K m H (putK (kP key) p kvs) (L2.putK ls key v) := by
  have ha := lf_any (key := key) r
  unfold L2.putK
  cases z : lookK (kP key) kvs with
  | some w =>
    rw [z] at ha
    rw [if_pos (show (ls.any fun kv => decide (kv.1 = key)) = true from ha.symm)]
    exact lf_repl hv r (lf_keys r nd) z
  | none =>
    rw [z] at ha
    rw [if_neg (by rw [← ha]; simp), putK_new z]
    exact Paired.snoc r ⟨rfl, hv⟩
theorem nt_repl {k p : PV} {v : V} (hk : AK k = true) (hv : VR K m H p v) : ∀ {kvs : List (PV × PV)} {xs : List (NestedKey × Addr × V)} {w : PV}, NtR K m H kvs xs → (kvs.map fun q => nk q.1).Nodup → lookK k kvs = some w → NtR K m H (putK k p kvs) (xs.map fun x => if x.1 = nk k then (x.1, x.2.1, v) else x)
  | _, _, _, .nil, _, e => by cases e
  | _, _, w, .cons (a := q) (b := x) (l₁ := kvs) (l₂ := xs) r t, nd, e => by
    have a1 : AK q.1 = true := by
      have h1 := r.1
      have h2 := r.2.1
      cases z : q.1 <;> rw [z] at h1 h2 <;> first | exact h2 | cases h1
    rw [lookK_cons, keq_ak a1 hk] at e
    rw [putK_cons, keq_ak a1 hk]
    rw [List.map_cons, List.nodup_cons] at nd
    by_cases c : nk q.1 = nk k
    · rw [decide_eq_true c]
      simp only []
      rw [List.map_cons, if_pos (by rw [r.2.2.1]; exact c)]
      refine .cons ⟨r.1, r.2.1, r.2.2.1, r.2.2.2.1, hv⟩ ?_
      have no : ∀ {kvs : List (PV × PV)} {xs : List (NestedKey × Addr × V)}, NtR K m H kvs xs → nk k ∉ (kvs.map fun q => nk q.1) → (xs.map fun x => if x.1 = nk k then (x.1, x.2.1, v) else x) = xs := by
        intro kvs xs z
        induction z with
        | nil => intro _; rfl
        | @cons q' x' _ _ r' _ ih =>
          intro hn
          rw [List.map_cons, List.mem_cons] at hn
          have : ¬ x'.1 = nk k := fun z => hn (.inl (by rw [← z, r'.2.2.1]))
          rw [List.map_cons, if_neg this, ih fun z => hn (.inr z)]
      rw [no t (by rw [← c]; exact nd.1)]
      exact t
    · rw [decide_eq_false c] at e ⊢
      simp only [] at e ⊢
      rw [List.map_cons, if_neg (by rw [r.2.2.1]; exact c)]
      exact .cons r (nt_repl hk hv t nd.2 e)
theorem NtR.put {k p : PV} {v : V} {b : Addr} (h1 : isTupV k = true) (h2 : pureV 8 k = true) (hk : AK k = true) (qk : VR K m H k (.ref b)) (hv : VR K m H p v) {kvs : List (PV × PV)} {xs : List (NestedKey × Addr × V)} (r : NtR K m H kvs xs) (nd : (kvs.map fun q => nk q.1).Nodup) : NtR K m H (putK k p kvs) (putN xs (nk k) b v) := by
  have ha := nt_look hk r
  unfold putN
  cases z : lookK k kvs with
  | some w =>
    rw [z] at ha
    obtain ⟨v', e, _⟩ := ha
    rw [e]
    exact nt_repl hk hv r nd z
  | none =>
    rw [z] at ha
    rw [show valN xs (nk k) = none from ha, putK_new z]
    exact Paired.snoc r ⟨h1, h2, rfl, qk, hv⟩
theorem Dd.put_tk {d : Dd} {k p : PV} : (d.put k p).tk = match d.look k with
    | some _ => d.tk
    | none => isTupV k := by
  unfold Dd.put Dd.look
  rw [frN_eq, frN_eq, frN_eq]
  cases lookK k (d.bkt (hsK k)) <;> rfl
/-- the heap behind a[y] = v, and what stood there -/
def DPo (K : PySem.W.Frag) (w : World) (H : Hp) (a : Addr) (y v : V) (H' : Hp) (o : Option V) : Prop :=
  (∃ ls k, H a = some (.dK ls) ∧ y = kV k ∧ o = valV ls k ∧ ls.length < sizeLine ∧ H' = upd H a (.dK (L2.putK ls k v))) ∨
  ∃ u xs k b, H a = some u ∧ IsN w a xs u ∧ y = .ref b ∧ KeyV K H k b ∧ (∀ x ∈ xs, KeyV K H x.1 x.2.1) ∧ o = valN xs k ∧ xs.length < sizeLine ∧ H' = upd H a (XN w a (putN xs k b v))
/-- a dict stored into -/
theorem HR.dpo (r : HR K cl fn m H h) {n : Nat} {a : Addr} {d : Dd} {k p : PV} {y v : V} (e : h.get n = some (.dct d)) (ha : m[n]? = some a) (hk : d.kOk k = true) (hz : sizeOk (d.n + 1) = true) (q : VR K m H k y) (qv : VR K m H p v) :
    ∃ H' o, DPo K fn.w H a y v H' o ∧ LkR K m H (d.look k) o ∧ Grow m H m H' ∧ HR K cl fn m H' (h.put n (.dct (d.put k p))) := by
  obtain ⟨b0, h1, h2⟩ := r.ob n _ e
  rw [ha] at h1
  cases h1
  obtain ⟨kvs, u, x1, x2, x3⟩ := h2
  have hs := sizeOk_le hz
  rw [x1.n] at hs
  have lk := x1.look k
  rcases key_cases q hk with ⟨t, key, rfl, rfl⟩ | ⟨t, c1, c2, c3, b, rfl, kv⟩
  · rw [t] at x3
    obtain ⟨ls, rfl, lf⟩ := x3
    have g : Grow m H m (upd H a (.dK (L2.putK ls key v))) := Grow.upd_mut (List.mem_of_getElem? ha) (fun xs e => by rw [x2] at e; cases e) (fun ob u e => by rw [x2] at e; cases e)
    refine ⟨_, _, .inl ⟨ls, key, x2, rfl, rfl, by have := Paired.length lf; omega, rfl⟩, by rw [lk]; exact lf_look lf key, g, r.put (ob' := .dct (d.put (kP key) p)) e ha g ⟨_, _, x1.put (v := p) (kP_ak key), upd_same, ?_⟩⟩
    have tk : (d.put (kP key) p).tk = false := by
      rw [Dd.put_tk]
      cases d.look (kP key) with
      | some w => exact t
      | none => cases key <;> rfl
    rw [tk]
    exact ⟨_, rfl, Paired.mapP (lf.put qv x1.nd) fun p x z => ⟨z.1, z.2.grow g⟩⟩
  · have fin : ∀ xs, NtR K m H kvs xs → IsN fn.w a xs u → (d.put k p).tk = true → ∃ H' o, DPo K fn.w H a (.ref b) v H' o ∧ LkR K m H (d.look k) o ∧ Grow m H m H' ∧ HR K cl fn m H' (h.put n (.dct (d.put k p))) := by
      intro xs nt isn tk
      have mu := isN_mut isn
      have g : Grow m H m (upd H a (XN fn.w a (putN xs (nk k) b v))) := Grow.upd_mut (List.mem_of_getElem? ha) (fun xs e => by rw [x2] at e; cases e; exact mu) (fun ob u e => by rw [x2] at e; cases e; exact mu)
      refine ⟨_, _, .inr ⟨u, xs, nk k, b, x2, isn, rfl, kv, nt.keys, rfl, by have := Paired.length nt; omega, rfl⟩, by rw [lk]; exact nt_look c3 nt, g, r.put (ob' := .dct (d.put k p)) e ha g ⟨_, _, x1.put (v := p) c3, upd_same, ?_⟩⟩
      rw [tk]
      exact ⟨_, rfl, Paired.mapP (nt.put c1 c2 c3 q qv x1.nd) fun p x z => ⟨z.1, z.2.1, z.2.2.1, z.2.2.2.1.grow g, z.2.2.2.2.grow g⟩⟩
    cases tk : d.tk with
    | true =>
      rw [tk] at x3
      obtain ⟨xs, rfl, nt⟩ := x3
      refine fin xs nt (.inl rfl) ?_
      rw [Dd.put_tk]
      cases d.look k with
      | some w => exact tk
      | none => exact c1
    | false =>
      rw [tk] at x3 t
      obtain ⟨ls, rfl, lf⟩ := x3
      have t : d.n = 0 := by
        rcases t with t | t
        · cases t
        · exact t
      have hn := x1.n
      rw [t] at hn
      cases kvs with
      | cons _ _ => cases hn
      | nil =>
        cases lf
        refine fin [] .nil (.inr ⟨rfl, rfl⟩) ?_
        rw [Dd.put_tk, lk]
        exact c1
theorem DPo.dp {w : World} {a : Addr} {y v : V} {H' : Hp} {o : Option V} (h : DPo K w H a y v H' o) : DP K w H a y v H' := by
  rcases h with ⟨ls, k, h1, h2, _, h3, h4⟩ | ⟨u, xs, k, b, h1, h2, h3, h4, h5, _, h6, h7⟩
  · exact .inl ⟨ls, k, h1, h2, h3, h4⟩
  · exact .inr ⟨u, xs, k, b, h1, h2, h3, h4, h5, h6, h7⟩
theorem HR.dp (r : HR K cl fn m H h) {n : Nat} {a : Addr} {d : Dd} {k p : PV} {y v : V} (e : h.get n = some (.dct d)) (ha : m[n]? = some a) (hk : d.kOk k = true) (hz : sizeOk (d.n + 1) = true) (q : VR K m H k y) (qv : VR K m H p v) :
    ∃ H', DP K fn.w H a y v H' ∧ Grow m H m H' ∧ HR K cl fn m H' (h.put n (.dct (d.put k p))) := by
  obtain ⟨H', o, h1, _, h2⟩ := r.dpo e ha hk hz q qv
  exact ⟨H', h1.dp, h2⟩
end
end Ev

set_option Elab.async false
set_option linter.all false
set_option maxRecDepth 100000
/-! EvD2: dicts: walked, laid out as lists. -/
namespace Ev
open PySem PySem.Spec PyProof.Rows L2

/-- keys and values of the dict at a, in their order -/
def DPs (w : World) (a : Addr) (u : HO) (ps : List (V × V)) : Prop :=
  (∃ ls : List (Key × V), u = .dK ls ∧ ps = ls.map fun kv => (kV kv.1, kv.2)) ∨ ∃ xs : List (NestedKey × Addr × V), u = XN w a xs ∧ ps = xs.map fun x => (V.ref x.2.1, x.2.2)
theorem DPs.mut {w : World} {a : Addr} {u : HO} {ps : List (V × V)} (h : DPs w a u ps) : Mut (some u) := by
  rcases h with ⟨ls, rfl, _⟩ | ⟨xs, rfl, _⟩ <;> exact True.intro
theorem DPs.notFrz {w : World} {a : Addr} {u : HO} {ps : List (V × V)} (h : DPs w a u ps) : ∀ o v, u ≠ .frz o v := by
  rcases h with ⟨ls, rfl, _⟩ | ⟨xs, rfl, _⟩ <;> exact fun _ _ e => nomatch e
abbrev EsR : List (V × V) → List DictEntry → Prop := Paired fun p e => RelV p.1 e.key ∧ RelV p.2 e.val
theorem es_pairs {P : Program} {w : World} : ∀ {ls : List (Key × V)} {vs : List (Key × Value)} {es : List DictEntry}, KV ls vs → Pairs (mixKind P w) es vs → EsR (ls.map fun kv => (kV kv.1, kv.2)) es
  | [], _, _, .nil, .nil => .nil
  | p :: ls, _, _, .cons r t, .cons h1 h2 q => by
    refine .cons ⟨?_, ?_⟩ (es_pairs t q)
    · show RelV (kV p.1) _
      rw [show p.1 = _ from r.1]
      exact relV_key (show keyIs _ _ = true from h1)
    · rw [h2]; exact r.2
theorem es_nested {w : World} : ∀ {xs : List (NestedKey × Addr × V)} {ys : List (NestedKey × Addr × Value)}, KX xs ys → EsR (xs.map fun x => (V.ref x.2.1, x.2.2)) (ys.map (entN w))
  | [], _, .nil => .nil
  | x :: xs, _, .cons r t => by
    refine .cons ⟨?_, r.2.2⟩ (es_nested t)
    show RelV (V.ref x.2.1) _
    rw [show x.2.1 = _ from r.2.1]
    exact rfl
/-- the dict's object -/
theorem dps_raw {P : Program} {w : World} {H : Hp} {h : Heap} {a : Addr} {u : HO} {ps : List (V × V)} (d : DPs w a u ps) (ok : ObjOk P w H h a u) :
    (a == sysModules) = false ∧ ps.length ≤ sizeLine ∧ ∃ o es ep, h.get? a = some o ∧ o.ExactDict ∧ o.data = .dict es ep ∧ EsR ps es.toList := by
  rcases d with ⟨ls, rfl, rfl⟩ | ⟨xs, rfl, rfl⟩
  · obtain ⟨z, hd, vs, rel, o, es, ep, h1, h2, h3, h4, h5, h6⟩ := ok
    exact ⟨hd, by rw [List.length_map]; exact z, o, es, ep, h1, h2, h3, es_pairs rel h5⟩
  · obtain ⟨⟨z, hd, ys, rel, o, es, ep, h1, h2, h3, h4, h5⟩, _⟩ := ok
    exact ⟨hd, by rw [List.length_map]; exact z, o, es, ep, h1, h2, h3, by rw [h4]; exact es_nested rel⟩
theorem esr_at {ps : List (V × V)} {es : Array DictEntry} (r : EsR ps es.toList) {i : Nat} (hi : i < ps.length) : ∃ (h : i < es.size), RelV (ps[i]).1 es[i].key ∧ RelV (ps[i]).2 es[i].val := by
  have hl : ps.length = es.size := by have := Paired.length r; rwa [Array.length_toList] at this
  have h : i < es.size := by rw [← hl]; exact hi
  refine ⟨h, ?_⟩
  obtain ⟨b, hb, q⟩ := L2.paired_get r (List.getElem?_eq_getElem hi)
  rw [Array.getElem?_toList, Array.getElem?_eq_getElem h] at hb
  cases hb
  exact q
theorem esr_size {ps : List (V × V)} {es : Array DictEntry} (r : EsR ps es.toList) : es.size = ps.length := by
  have := Paired.length r
  rw [Array.length_toList] at this
  exact this.symm
section
variable {X : Cx} {pins : List (Addr × Obj)} {σ : L2.St} {H : Hp} {s : Shared}
theorem frz_raw (I : Inv X pins σ H s) {a : Addr} {o : Obj} {u : HO} {ps : List (V × V)} (e : H a = some (.frz o u)) (d : DPs X.w a u ps) :
    (a == sysModules) = false ∧ ps.length ≤ sizeLine ∧ s.heap.get? a = some o ∧ o.ExactDict ∧ ∃ es ep, o.data = .dict es ep ∧ EsR ps es.toList := by
  obtain ⟨h1, h2⟩ := (show ObjOk X.prog X.w H s.heap a (.frz o u) from I.hok a _ e)
  obtain ⟨q1, q2, o', es, ep, q3, q4, q5, q6⟩ := dps_raw d h2
  rw [h1] at q3
  cases q3
  exact ⟨q1, q2, h1, q4, es, ep, q5, q6⟩
end
/-- the keys of the locked dict at a -/
def Itq (a : Addr) (o : Obj) (u : HO) (ps : List (V × V)) : It :=
  ⟨fun i H => H a = some (.frz o u) ∧ i < ps.length, fun i H x H' => H' = H ∧ ∃ p, ps[i]? = some p ∧ x = p.1, fun i H => H a = some (.frz o u) ∧ ps.length ≤ i⟩
/-- its pairs -/
def Itp (a : Addr) (o : Obj) (u : HO) (ps : List (V × V)) : It :=
  ⟨fun i H => H a = some (.frz o u) ∧ i < ps.length, fun i H x H' => ∃ T p, ps[i]? = some p ∧ x = .ref T ∧ H T = none ∧ H' = upd H T (.tup [p.1, p.2]), fun i H => H a = some (.frz o u) ∧ ps.length ≤ i⟩
section
variable {P : Program} {w : World} {K : PySem.W.Frag} {tg : Expr} {d : Addr} {o : Obj} {es : Array DictEntry} {ep : Nat} {u : HO} {ps : List (V × V)}
theorem turn_q (it : Addr) (dp : DPs w d u ps) (hod : o.data = .dict es ep) : Turn P w K tg (Itq d o u ps) [it] it (fun i h => h.IsKeyIter it d i ps.length ep) where
  mem := by simp
  obj := fun i h st b hb => by
    have e : b = it := by simpa using hb
    subst e
    obtain ⟨oi, e, c, dd⟩ := st
    exact ⟨oi, e, fun v z => by rw [dd] at z; cases z⟩
  keep := fun i h h' st k => st.at fun oi e => k it (by simp) oi e
  item := by
    intro X hP hw hK hc i pins s σ H E I hf st hg
    subst hP hw hK
    obtain ⟨hd, hi⟩ := hg
    obtain ⟨f0, f1, f2, f3, f4, f5⟩ := hf it (by simp)
    obtain ⟨hs, hz, hgd, hx, es', ep', hdt, ent⟩ := frz_raw I hd dp
    obtain ⟨rfl, rfl⟩ := dict_ep hod hdt
    obtain ⟨hi2, r1, r2⟩ := esr_at ent hi
    refine next_key_item st hgd hdt (esr_size ent) (Array.getElem?_eq_getElem hi2) fun h' st' sb => ?_
    have I1 : Inv X pins σ H { s with heap := h' } := I.turned (t' := s.toks) (fun b ob hb e => (sb.2 b hb).trans e) f0 f1 f3 f4 f5
    obtain ⟨oi, e, c, dd⟩ := id st'
    exact ⟨_, rfl, go_of (s := { s with heap := h' }) e c dd (by decide) ⟨_, H, I1, r1, ⟨rfl, _, List.getElem?_eq_getElem hi, rfl⟩, st', fun b hb => (hf b hb).1⟩⟩
  done := by
    intro X hP hw hK hc i pins s σ H E I hf st hg
    subst hP hw hK
    obtain ⟨hd, hi⟩ := hg
    obtain ⟨f0, f1, f2, f3, f4, f5⟩ := hf it (by simp)
    obtain ⟨hs, hz, hgd, hx, es', ep', hdt, ent⟩ := frz_raw I hd dp
    obtain ⟨rfl, rfl⟩ := dict_ep hod hdt
    exact next_key_end (I.ok.hd hc) st hgd hdt (esr_size ent) hi fun h' eb => ⟨rfl, I.turned (t' := s.toks) (fun b ob hb e => eb b ob hb e) f0 f1 f3 f4 f5⟩
  self := fun A i s Q E st h => by
    refine wpAny_pyIter_slot st.typeIs F.slot_dict_keyiterator_iter (wpAny_call_entry F.slot_dict_keyiterator_iter st.typeIs F.entry_dict_keyiterator_iter ?_ (F.args_dict_keyiterator_iter_1 _))
    show wpAny _ _ (ret (.ref it)) _ _ s
    exact wpAny_pure ⟨_, rfl, "dict_keyiterator", _, st.typeIs, F.slot_dict_keyiterator_next.lookup, h⟩
theorem turn_p {elts : List Expr} {kk : Nat} {tpos : Pos} (it : Addr) (dp : DPs w d u ps) (hod : o.data = .dict es ep) :
    Turn P w K (.Tuple elts kk tpos) (Itp d o u ps) [it] it (fun i h => ∃ ok ov, IsItemIter h it d i ps.length ep ok ov) where
  mem := by simp
  obj := fun i h st b hb => by
    have e : b = it := by simpa using hb
    subst e
    obtain ⟨ok, ov, e⟩ := st
    exact ⟨_, e, fun v z => nomatch z⟩
  keep := fun i h h' st k => let ⟨ok, ov, e⟩ := st; ⟨ok, ov, k it (by simp) _ e⟩
  item := by
    intro X hP hw hK hc i pins s σ H E I hf st hg
    subst hP hw hK
    obtain ⟨hd, hi⟩ := hg
    obtain ⟨hs, hz, hgd, hx, es', ep', hdt, ent⟩ := frz_raw I hd dp
    obtain ⟨rfl, rfl⟩ := dict_ep hod hdt
    obtain ⟨hi2, r1, r2⟩ := esr_at ent hi
    obtain ⟨ok, ov, he⟩ := st
    rw [← esr_size ent] at he
    have hlt : it < s.heap.objs.size := Heap.lt_size he
    refine DT.nextI he ⟨o, hgd, hx, hdt⟩ hi2 fun h' ho hT hz hk => ?_
    refine ⟨_, rfl, wpAny_letOwnedTupleGo_items (s := { s with heap := h' }) ho fun h'' he' sb => ?_⟩
    have hT2 : h''.get? s.heap.objs.size = some { cls := .type "tuple", data := .seq #[es'[i].key, es'[i].val] } := (sb.2 _ (Nat.ne_of_gt hlt)).trans hT
    have new : ObjOk X.prog X.w (upd H s.heap.objs.size (.tup [ps[i].1, ps[i].2])) h'' s.heap.objs.size (.tup [ps[i].1, ps[i].2]) :=
      ⟨by show 2 ≤ sizeLine; decide, [es'[i].key, es'[i].val], .cons r1 (.cons r2 .nil), ⟨_, hT2, rfl, _, rfl⟩⟩
    have I1 : Inv X pins σ (upd H s.heap.objs.size (.tup [ps[i].1, ps[i].2])) { s with heap := h'' } :=
      I.turnedNew (t' := s.toks) (ch := [it]) (fun b ob hb e => (sb.2 b (by simpa using hb)).trans (hk b ob (by simpa using hb) e)) hf (Nat.le_refl _) new
    refine ⟨.ref s.heap.objs.size, _, I1, rfl, ⟨_, _, List.getElem?_eq_getElem hi, rfl, I.hok.fresh (Nat.le_refl _), rfl⟩, ⟨es'[i].key, es'[i].val, by rw [← esr_size ent]; exact he'⟩, fun b hb => ?_⟩
    have e : b = it := by simpa using hb
    rw [e, upd_ne (Nat.ne_of_lt hlt)]
    exact (hf it (by simp)).1
  done := by
    intro X hP hw hK hc i pins s σ H E I hf st hg
    subst hP hw hK
    obtain ⟨hd, hi⟩ := hg
    obtain ⟨f0, f1, f2, f3, f4, f5⟩ := hf it (by simp)
    obtain ⟨hs, hz, hgd, hx, es', ep', hdt, ent⟩ := frz_raw I hd dp
    obtain ⟨rfl, rfl⟩ := dict_ep hod hdt
    obtain ⟨ok, ov, he⟩ := st
    rw [← esr_size ent] at he
    exact DT.endI (I.ok.hd hc) he ⟨o, hgd, hx, hdt⟩ (by rw [esr_size ent]; exact hi) fun h' eb => ⟨rfl, I.turned (t' := s.toks) (fun b ob hb e => eb b ob hb e) f0 f1 f3 f4 f5⟩
  self := fun A i s Q E st h => let ⟨_, _, e⟩ := st; PySem.W.kcp_self e h
end
/-! ### for k in d -/
/-- a dict is walked: it is locked then -/
def kDct (w : World) (Jf : Addr → Obj → HO → List (V × V) → It) (R : It → Hp → Prop) (x : V) (H1 : Hp) : Prop :=
  ∃ a u ps, x = .ref a ∧ DPs w a u ps ∧ ((∃ o, H1 a = some (.frz o u) ∧ R (Jf a o u ps) H1) ∨ (H1 a = some u ∧ ∀ o, R (Jf a o u ps) (upd H1 a (.frz o u))))
section
variable {X : Cx} {tg e : Expr} {te : TE} {apos cpos : Pos} {pins : List (Addr × Obj)} {σ : L2.St} {H : Hp} {s : Shared}
theorem kdct_ok (I : Inv X pins σ H s) {Jf : Addr → Obj → HO → List (V × V) → It} {R : It → Hp → Prop} {x : V} {v : Value} (rx : RelV x v) (h : kDct X.w Jf R x H) :
    ∃ a o u ps H', x = .ref a ∧ v = .ref a ∧ DPs X.w a u ps ∧ H' a = some (.frz o u) ∧ Inv X pins σ H' s ∧ R (Jf a o u ps) H' := by
  obtain ⟨a, u, ps, rfl, dp, q⟩ := h
  obtain rfl : v = Value.ref a := rx
  rcases q with ⟨o, e, q⟩ | ⟨e, q⟩
  · exact ⟨a, o, u, ps, H, rfl, rfl, dp, e, I, q⟩
  · obtain ⟨o, I1⟩ := I.lock e dp.mut
    exact ⟨a, o, u, ps, _, rfl, rfl, dp, upd_same, I1, q o⟩
theorem q_iter (I : Inv X pins σ H s) {a : Addr} {o : Obj} {u : HO} {ps : List (V × V)} {R : It → Hp → Prop} {E : Value → Shared → Prop} (e : H a = some (.frz o u)) (dp : DPs X.w a u ps) (q : R (Itq a o u ps) H) :
    wpAny (model X.prog X.w) X.A (pyIter (.ref a)) (PIE X pins σ tg R) E s := by
  obtain ⟨hs, hz, hgd, hx, es, ep, hdt, ent⟩ := frz_raw I e dp
  refine iter_keys hs hgd hx hdt (pi_one (tk := s.toks) I _ (turn_q _ dp hdt) ⟨_, Heap.get?_push_size _ rfl, rfl, ?_⟩ q)
  rw [esr_size ent] <;> rfl
theorem pi_ditems {elts : List Expr} {kk : Nat} {tpos : Pos} (he : PE X e te) (hbase : attributeBase e "items" X.env (eval e X.env) = eval e X.env) (hline : (apos.endLine == cpos.line) = true) :
    PI X (.Tuple elts kk tpos) (.Call (.Attribute e "items" apos) [] [] cpos) (fun σ H R => te σ H fun x H1 => kDct X.w Itp R x H1) := by
  refine ⟨fun pins s σ H R I h => ?_⟩
  refine wpAny_Call_method (T := "dict") (id := "dict.items") hbase rfl hline F.plainAttrs_dict F.slot_dict_items F.type_dict_items (thn (he.run pins s σ H _ I h) fun v s1 ⟨x, H0, I0, rx, q⟩ => ?_)
  obtain ⟨a, o, u, ps, H1, rfl, rfl, dp, e1, I1, q⟩ := kdct_ok I0 rx q
  obtain ⟨hs, hz, hgd, hx, es, ep, hdt, ent⟩ := frz_raw I1 e1 dp
  have raw : DT.Raw s1.heap a es ep := ⟨o, hgd, hx, hdt⟩
  refine ⟨raw.typeIs, fun b z => by cases z; exact ⟨o, hgd, hx.2.1⟩, ?_⟩
  have I2 : Inv X pins σ H1 { s1 with heap := s1.heap.push { cls := .type "dict_items", data := .fields #[.ref a] } } := I1.kept (t' := s1.toks) fun b ob q => Heap.get?_push_of_some _ q
  have fin : wpAny (model X.prog X.w) X.A (pyIter (.ref s1.heap.objs.size)) (PIE X pins σ (.Tuple elts kk tpos) R) X.xe { s1 with heap := s1.heap.push { cls := .type "dict_items", data := .fields #[.ref a] } } := by
    refine DT.iterI (d := a) (es := es) (ep := ep) ⟨_, Heap.get?_push_size _ rfl, rfl, rfl⟩ (raw.push _) (pi_one (tk := s1.toks) I2 _ (turn_p _ dp hdt) ⟨.none, .none, ?_⟩ q)
    rw [← esr_size ent]
    exact Heap.get?_push_size _ rfl
  show wpAny _ _ (callWith cpos (.builtin "dict.items") [.ref a] [] []) _ X.xe s1
  exact method_meetsIn F.slot_dict_items F.entry_dict_items rfl (PySem.evalArgs_none ⟨rfl, raw.typeIs, F.args_dict_items_1 _, _, DT.meetsItems (es := es) (ep := ep) hs, ⟨raw, fin⟩⟩)
end
/-! ### list(d) -/
theorem call_list_dD {X : Cx} (hc : X.calm = true) : CallR X (.type "list") (fun xs H Q => ∃ a u ps, xs = [V.ref a] ∧ Rd H a u ∧ DPs X.w a u ps ∧ ∀ p, H p = none → Q (.ref p) (upd H p (.lst (ps.map (·.1))))) := by
  intro pins s σ H xs us Q I r h
  obtain ⟨d, u0, ps, rfl, hd, dp, q⟩ := h
  obtain ⟨u, rfl, rx⟩ := r.one
  cases rx
  obtain ⟨hs, hz, o, es, ep, ho, hx, hdt, ent⟩ := dps_raw dp (hd.ok I.hok)
  have l1 := esr_size ent
  refine PySem.W.kdl_call (kdl_raw hs hx hdt) (I.ok.hd hc) ho (by omega) fun h' tk acc' c' kp e it => ?_
  have rv : Vals (ps.map (·.1)) acc'.toList := by
    have hl : acc'.toList.length = ps.length := by rw [Array.length_toList, it.1]; exact l1
    refine L2.vals_of_at (by rw [List.length_map]; exact hl.symm) fun j x v h1 h2 => ?_
    obtain ⟨en, hen, hv⟩ := it.2 j v (by rw [← Array.getElem?_toList]; exact h2)
    rw [List.getElem?_map] at h1
    cases hp : ps[j]? with
    | none => rw [hp] at h1; cases h1
    | some p =>
      rw [hp] at h1
      cases h1
      obtain ⟨hj, ep'⟩ := List.getElem?_eq_some_iff.mp hp
      obtain ⟨hj2, r1, _⟩ := esr_at ent hj
      rw [Array.getElem?_eq_getElem hj2] at hen
      cases hen
      rw [hv, ← ep']
      exact r1
  have hz' : (ps.map (·.1)).length ≤ sizeLine := by rw [List.length_map]; omega
  refine ⟨.ref s.heap.objs.size, _, I.laid (t' := tk) (o := .lst (ps.map (·.1))) kp (Nat.le_refl _) ?_, rfl, q _ (I.hok.fresh (Nat.le_refl _))⟩
  exact ⟨hz', acc'.toList, c', rv, by rw [Array.toArray_toList]; exact e⟩
/-! ### list(d.items()) -/
/-- the tuples at their addresses -/
def putP : Hp → List Addr → List (V × V) → Hp
  | H, a :: as, p :: ps => putP (upd H a (.tup [p.1, p.2])) as ps
  | H, _, _ => H
theorem putP_off {b : Addr} : ∀ (as : List Addr) (ps : List (V × V)) (H : Hp), b ∉ as → putP H as ps b = H b
  | [], _, _, _ => rfl
  | _ :: _, [], _, _ => rfl
  | a :: as, p :: ps, H, h => by
    show putP (upd H a (.tup [p.1, p.2])) as ps b = H b
    rw [putP_off as ps _ (fun z => h (List.mem_cons_of_mem _ z)), upd_ne (fun z => h (by rw [z]; exact List.mem_cons_self))]
theorem putP_at : ∀ (as : List Addr) (ps : List (V × V)) (H : Hp), as.length = ps.length → as.Nodup → Paired (fun (t : Addr) (p : V × V) => putP H as ps t = some (.tup [p.1, p.2])) as ps
  | [], [], _, _, _ => .nil
  | [], _ :: _, _, h, _ => by cases h
  | _ :: _, [], _, h, _ => by cases h
  | a :: as, p :: ps, H, h, hn => by
    have hn' := List.nodup_cons.mp hn
    have ih := putP_at as ps (upd H a (.tup [p.1, p.2])) (Nat.succ.inj h) hn'.2
    refine .cons ?_ ih
    show putP (upd H a (.tup [p.1, p.2])) as ps a = some (.tup [p.1, p.2])
    rw [putP_off as ps _ hn'.1, upd_same]
section
variable {prog : Program} {w : World} {A : Around} {E : Value → Shared → Prop} {s : Shared} {r d : Addr} {es : Array DictEntry} {ep : Nat}
theorem items_init {R : Result → Shared → Prop} (hh : A.handled = none) (hv : s.heap.IsItemsView r d) (hm : DT.Raw s.heap d es ep) (S : Addr) (hSr : S ≠ r) (hSd : d ≠ S) (hS : s.heap.get? S = some { cls := .type "list", data := .seq #[] })
    (hR : ∀ h' tk acc c as, (∀ b o, b ≠ S → s.heap.get? b = some o → h'.get? b = some o) → h'.get? S = some { cls := .type "list", dict := none, data := .seq acc c, slots := #[] } → as.length = es.size → DT.Made es S h' as →
      acc.toList = as.map Value.ref → R (.ok (.ret .none)) { s with heap := h', toks := tk }) (hn : es.size ≤ sizeLine) :
    wpAny (model prog w) A.in1 (Builtin.«list.__init__» ⟨[.ref S, .ref r], []⟩)
      (fun fin s' => match fin with | .done f => R (.ok f) s' | .again c' => c'.quiet = true ∧ codeAny (model prog w) A c' R s') (fun e s' => R (.error e) s') s := by
  show wpAny _ _ (do let old ← Builtin.List.listItems (.ref S); Builtin.List.listUpdate (.ref S) (fun _ => #[]); letGo old.toList.reverse; Builtin.List.listExtendWith (.ref S) (.ref r) .none) _ _ s
  refine wpAny_bind ?_
  unfold Builtin.List.listItems
  refine wpAny_bind (wpAny_seqItems hS rfl (wpAny_pure ?_))
  show wpAny _ _ (updateSeq S (fun _ => #[]) >>= fun _ => letGo (#[] : Array Value).toList.reverse >>= fun _ => Builtin.List.listExtendWith (.ref S) (.ref r) .none) _ _ s
  refine wpAny_bind (wpAny_updateSeq hS rfl ?_)
  have hS₂ := Heap.get?_update_self (Obj.mapSeq (fun _ => (#[] : Array Value))) hS rfl
  have oth : ∀ b o, b ≠ S → s.heap.get? b = some o → (s.heap.update S (Obj.mapSeq (fun _ => (#[] : Array Value)))).get? b = some o :=
    fun b o hb e => (Heap.get?_update_other _ _ (Ne.symm hb)).trans e
  refine wpAny_bind (wpAny_letGo ?_)
  refine DT.extI (es := es) (ep := ep) hh (let ⟨o, ho, x⟩ := hv; ⟨o, oth r o hSr.symm ho, x⟩) (hm.at' fun o e => oth d o hSd e) S hSr hSd .none _ hS₂ (fun h' tk acc c as hk hS' hl hG hacc => ?_) hn
  exact hR h' tk acc c as (fun b o hb e => hk b o hb (oth b o hb e)) hS' hl (hG.low (Nat.le_of_lt (Heap.lt_size hS₂))) hacc
theorem items_call {Q : Value → Shared → Prop} (hh : A.handled = none) (hv : s.heap.IsItemsView r d) (hm : DT.Raw s.heap d es ep) (hn : es.size ≤ sizeLine)
    (hQ : ∀ h' tk acc c as, (∀ b o, s.heap.get? b = some o → h'.get? b = some o) → h'.get? s.heap.objs.size = some { cls := .type "list", dict := none, data := .seq acc c, slots := #[] } → as.length = es.size → DT.Made es s.heap.objs.size h' as →
      acc.toList = as.map Value.ref → Q (.ref s.heap.objs.size) { s with heap := h', toks := tk }) :
    wpAny (model prog w) A (call (.type "list") [.ref r]) Q E s := by
  refine callType_codes (Q₁ := fun obj s₁ => obj = .ref s.heap.objs.size ∧ s₁ = { s with heap := s.heap.push { cls := .type "list", data := .seq #[] } }) PySem.F.called_list (PySem.F.typeCall_list_1 _) PySem.F.entry_list_init
    (code_list_new _ ⟨rfl, rfl⟩) fun obj s₁ h₁ => ?_
  obtain ⟨rfl, rfl⟩ := h₁
  have hS : (s.heap.push { cls := .type "list", data := .seq #[] }).get? s.heap.objs.size = some { cls := .type "list", data := .seq #[] } := Heap.get?_push_size _ rfl
  have hr : r < s.heap.objs.size := let ⟨_, ho, _⟩ := hv; Heap.lt_size ho
  have hd : d < s.heap.objs.size := hm.lt
  refine ⟨⟨_, hS, rfl⟩, PySem.F.args_list_init_2 _ _, items_init (es := es) (ep := ep) (A := A.in1) hh (let ⟨o, ho, x⟩ := hv; ⟨o, Heap.get?_push_of_some _ ho, x⟩) (hm.push _) _ (Nat.ne_of_gt hr) (Nat.ne_of_lt hd) hS (fun h' tk acc c as hk hS' hl hG hacc => ?_) hn⟩
  exact ⟨rfl, hQ h' tk acc c as (fun b o e => hk b o (Nat.ne_of_lt (Heap.lt_size e)) (Heap.get?_push_of_some _ e)) hS' hl hG hacc⟩
end
def rItemsD (w : World) : V → Hp → VK → Prop := fun x H Q => ∃ a u ps, x = .ref a ∧ Rd H a u ∧ DPs w a u ps ∧
  ∀ (H' : Hp) (p : Addr) (ts : List Addr), (∀ b o, H b = some o → H' b = some o) → H p = none → (∀ t ∈ ts, H t = none) → p ∉ ts → H' p = some (.lst (ts.map V.ref)) → Paired (fun (t : Addr) (q : V × V) => H' t = some (.tup [q.1, q.2])) ts ps → Q (.ref p) H'
section
variable {X : Cx} {e : Expr} {te : TE} {p apos cpos pos : Pos}
theorem items_laidD {pins : List (Addr × Obj)} {σ : L2.St} {H : Hp} {s : Shared} {h' : Heap} {tk : Nat} {ps : List (V × V)} {es : Array DictEntry} {acc : Array Value} {c : Nat} {as : List Addr} (I : Inv X pins σ H s) (hz : ps.length ≤ sizeLine) (ent : EsR ps es.toList)
    (hk : ∀ b o, s.heap.get? b = some o → h'.get? b = some o) (hS : h'.get? s.heap.objs.size = some { cls := .type "list", dict := none, data := .seq acc c, slots := #[] }) (hl : as.length = es.size) (hG : DT.Made es s.heap.objs.size h' as) (hacc : acc.toList = as.map Value.ref) :
    ∃ H' : Hp, (∀ b o, H b = some o → H' b = some o) ∧ H s.heap.objs.size = none ∧ (∀ t ∈ as, H t = none) ∧ s.heap.objs.size ∉ as ∧ H' s.heap.objs.size = some (.lst (as.map V.ref)) ∧ Paired (fun (t : Addr) (q : V × V) => H' t = some (.tup [q.1, q.2])) as ps ∧ Inv X pins σ H' { s with heap := h', toks := tk } := by
  have lk := esr_size ent
  have hSn : s.heap.objs.size ∉ as := fun z => Nat.lt_irrefl _ (hG.above _ z)
  have nd : as.Nodup := List.Pairwise.imp (fun {a b} (h : a < b) => Nat.ne_of_lt h) hG.rise
  have new : ∀ t ∈ as, H t = none := fun t ht => I.hok.fresh (Nat.le_of_lt (hG.above t ht))
  have newS : H s.heap.objs.size = none := I.hok.fresh (Nat.le_refl _)
  have atP := putP_at as ps (upd H s.heap.objs.size (.lst (as.map V.ref))) (by omega) nd
  have off : ∀ b, b ∉ as → b ≠ s.heap.objs.size → putP (upd H s.heap.objs.size (.lst (as.map V.ref))) as ps b = H b := fun b h1 h2 => by rw [putP_off as ps _ h1, upd_ne h2]
  have low : ∀ b o, s.heap.get? b = some o → b ∉ as ∧ b ≠ s.heap.objs.size := fun b o e => ⟨fun z => absurd (Heap.lt_size e) (Nat.not_lt.mpr (Nat.le_of_lt (hG.above b z))), Nat.ne_of_lt (Heap.lt_size e)⟩
  have kp : ∀ b u, H b = some u → (putP (upd H s.heap.objs.size (.lst (as.map V.ref))) as ps) b = some u := fun b u e => by
    rw [off b (fun z => by rw [new b z] at e; cases e) (fun z => by rw [z, newS] at e; cases e)]
    exact e
  have eS : putP (upd H s.heap.objs.size (.lst (as.map V.ref))) as ps s.heap.objs.size = some (.lst (as.map V.ref)) := by rw [putP_off as ps _ hSn, upd_same]
  refine ⟨putP (upd H s.heap.objs.size (.lst (as.map V.ref))) as ps, kp, newS, new, hSn, eS, atP, ?_⟩
  refine I.call' (ch := []) rfl ⟨fun b o q _ _ _ => hk b o q, fun b o q _ _ _ => ⟨o.slots, hk b o q⟩, fun b o q n _ => ?_, fun b o q _ => ⟨o, hk b o q⟩, fun b xs q => kp b _ q, fun b o u q => kp b _ q, fun b ps q => ⟨#[], by rw [kp b _ q]; simp⟩⟩ (fun b u q => ?_) I.bare fun b z => by simp at z
  · obtain ⟨z1, z2⟩ := low b o q
    rw [off b z1 z2]
    exact n
  · by_cases hb : b ∈ as
    · obtain ⟨j, pk, e1, e2, e3⟩ := LiI.paired_ix atP hb
      rw [e3] at q
      cases q
      obtain ⟨en, f1, f3⟩ := hG.pairs j b e1
      obtain ⟨hj, ej⟩ := List.getElem?_eq_some_iff.mp e2
      obtain ⟨hj2, r1, r2⟩ := esr_at ent hj
      rw [Array.getElem?_eq_getElem hj2] at f1
      cases f1
      rw [ej] at r1 r2
      exact ⟨by show 2 ≤ sizeLine; decide, _, .cons r1 (.cons r2 .nil), ⟨_, f3, rfl, _, rfl⟩⟩
    · by_cases hb2 : b = s.heap.objs.size
      · rw [hb2] at q ⊢
        rw [eS] at q
        cases q
        refine ⟨by rw [List.length_map]; omega, acc.toList, c, by rw [hacc]; exact LiI.vals_refs as, ?_⟩
        rw [Array.toArray_toList]
        exact hS
      · rw [off b hb hb2] at q
        exact (I.hok b u q).stay (fun d v _ y => hk d v y) (fun d y => kp d _ y) fun d xs y => kp d _ y
/-- list(e.items()) -/
theorem pe_listItemsD (hc : X.calm = true) (he : PE X e te) (hg : Gl X "list") (hm : X.mg "list" = none) (hv : bootBuiltins "list" = some (.type "list")) (hbase : attributeBase e "items" X.env (eval e X.env) = eval e X.env) (hline : (apos.endLine == cpos.line) = true) :
    PE X (.Call (.Name "list" p) [.Call (.Attribute e "items" apos) [] [] cpos] [] pos) (fun σ H Q => te σ H fun x H1 => rItemsD X.w x H1 Q) := by
  have hs : starEach [.Call (.Attribute e "items" apos) [] [] cpos] X.env = (false, eval (.Call (.Attribute e "items" apos) [] [] cpos) X.env) :: starEach [] X.env := rfl
  refine ⟨fun pins s σ H Q I hq => ?_⟩
  refine wpAny_Call_Name_kw (ld_blt I hg hm hv ?_)
  refine PyProof.Rows.callWith_type1 ?_ hs rfl
  rw [hs]
  show wpAny _ _ (spliced ((false, eval (.Call (.Attribute e "items" apos) [] [] cpos) X.env) :: backTo pos (starEach [] X.env))) _ _ s
  refine Calls.spliced_cons ?_
  refine wpAny_Call_method (T := "dict") (id := "dict.items") hbase rfl hline F.plainAttrs_dict F.slot_dict_items F.type_dict_items (thn (he.run pins s σ H _ I hq) fun u s1 ⟨x, H1, I1, rx, d, u0, ps, ex, hd, dp, q⟩ => ?_)
  subst ex
  obtain rfl : u = Value.ref d := rx
  obtain ⟨hs0, hz, o, es, ep, ho, hx, hdt, ent⟩ := dps_raw dp (hd.ok I1.hok)
  have raw : DT.Raw s1.heap d es ep := ⟨o, ho, hx, hdt⟩
  have I2 : Inv X pins σ H1 { s1 with heap := s1.heap.push { cls := .type "dict_items", data := .fields #[.ref d] } } := I1.kept (t' := s1.toks) fun b ob q => Heap.get?_push_of_some _ q
  refine ⟨raw.typeIs, fun b z => by cases z; exact ⟨o, ho, hx.2.1⟩, ?_⟩
  show wpAny _ _ (callWith cpos (.builtin "dict.items") [.ref d] [] []) _ X.xe s1
  refine method_meetsIn F.slot_dict_items F.entry_dict_items rfl (PySem.evalArgs_none ⟨rfl, raw.typeIs, F.args_dict_items_1 _, _, DT.meetsItems (es := es) (ep := ep) hs0, ⟨raw, ?_⟩⟩)
  refine Calls.spliced_nil ?_
  refine items_call (es := es) (ep := ep) (I1.ok.hd hc) ⟨_, Heap.get?_push_size _ rfl, rfl, rfl⟩ (raw.push _) (by rw [esr_size ent]; exact hz) fun h' tk acc c as hk hS hl hG hacc => ?_
  obtain ⟨H', k1, k2, k3, k4, k5, k6, J⟩ := items_laidD (tk := tk) I2 hz ent hk hS hl hG hacc
  exact ⟨.ref _, H', J, rfl, q H' _ as k1 k2 k3 k4 k5 k6⟩
end
end Ev

set_option Elab.async false
set_option linter.all false
set_option maxRecDepth 100000
/-! EvD3: dicts: displays, displays by loops. -/
namespace Ev
open PySem PySem.Spec PyProof.Rows L2

section
variable {X : Cx} {pins : List (Addr × Obj)} {σ : L2.St} {H : Hp} {s : Shared} {A : Around} {E : Value → Shared → Prop} {a : Addr} {y v : V} {u r : Value}
theorem p_dictSet {H' : Hp} {Q : Unit → Shared → Prop} (hu : A.units + 64 < cLine) (I : Inv X pins σ H s) (g : DP X.K X.w H a y v H') (ry : RelV y u) (rv : RelV v r) (h : ∀ s', Inv X pins σ H' s' → Q () s') :
    wpAny (model X.prog X.w) A (dictSet a u r) Q E s := by
  rcases g with ⟨kvs, k, e, ey, l, eH⟩ | ⟨u', xs, k, b, e, n, ey, eb, hk, l, eH⟩
  · subst ey eH
    obtain ⟨z, hd, vs, rel, dd⟩ := dk_of I.hok e
    have hz : vs.length ≤ sizeLine := by rw [← rel.length]; exact z
    have hl : (L2.putK kvs k v).length ≤ sizeLine := by have := length_putK kvs k v; omega
    refine wpAny_dictSet_pairs (hsz := hz) (kV_is ry) dd fun h' dd' hs => h _ ?_
    have he : ∃ q, h'.get? a = some q := let ⟨q, _, _, hq, _⟩ := dd'; ⟨q, hq⟩
    exact d_write I (by rw [e]; exact True.intro) hs he (dk_new hl hd (rel.put k rv) dd')
  · subst ey eH
    cases (show u = Value.ref b from ry)
    obtain ⟨z, hd, ys, rel, dd⟩ := isN_ok I (.inl e) n hk
    have hz : ys.length ≤ sizeLine := by rw [← Paired.length rel]; exact z
    have hl : (putN xs k b v).length ≤ sizeLine := by have := putN_len xs k b v; omega
    have hr : (nestedKind X.prog X.w).room A := by
      show A.units + 8 < cLine
      omega
    refine wpAny_dictSet_heap (hsz := hz) hr (eb.is I) dd fun h' dd' hs => h _ ?_
    have he : ∃ q, h'.get? a = some q := let ⟨q, _, _, hq, _⟩ := dd'; ⟨q, hq⟩
    exact d_write I (by rw [e]; exact isN_mut n) hs he (xn_new hl hd (rel.put k b rv) dd')
/-- stores one after another -/
def tPuts (K : PySem.W.Frag) (w : World) (a : Addr) : List (V × V) → Hp → (Hp → Prop) → Prop
  | [], H, Q => Q H
  | p :: r, H, Q => ∃ H', DP K w H a p.1 p.2 H' ∧ tPuts K w a r H' Q
theorem puts_run (hu : A.units + 64 < cLine) : ∀ {ps : List (V × V)} {vs : List (Value × Value)} {H : Hp} {s : Shared} {Q : PUnit → Shared → Prop} {R : Hp → Prop}, Inv X pins σ H s → VV ps vs → tPuts X.K X.w a ps H R → (∀ H' s', Inv X pins σ H' s' → R H' → Q PUnit.unit s') →
    wpAny (model X.prog X.w) A (forIn vs PUnit.unit fun (x : Value × Value) (_ : PUnit) => (do dictSet a x.1 x.2; pure (ForInStep.yield PUnit.unit) : Sem (ForInStep PUnit))) Q E s
  | [], _, H, s, Q, R, I, .nil, h, q => by
    rw [List.forIn_nil]
    exact wpAny_pure (q H s I h)
  | p :: ps, _, H, s, Q, R, I, .cons r t, h, q => by
    obtain ⟨H', dp, h⟩ := h
    rw [List.forIn_cons]
    refine wpAny_bind (wpAny_bind (p_dictSet hu I dp r.1 r.2 fun s' I' => wpAny_pure ?_))
    exact puts_run hu I' t h q
end
/-- {k: v, ..}: the new dict stands empty while the pairs are made -/
def tDispP (X : Cx) (trs : List (TE × TE)) : TE := fun σ H Q => ∀ p, H p = none → tPairs trs σ (upd H p (.dK [])) fun ps H2 => tPuts X.K X.w p ps H2 fun H3 => Q (.ref p) H3
theorem pe_dispP {X : Cx} {pos : Pos} {keys : List (Option Expr)} {values : List Expr} {trs : List (TE × TE)} (hu : X.A.units + 64 < cLine) (h : PPs X pos keys values trs) (hall : keys.all (·.isSome) = true) (hl : keys.length = values.length) (h0 : keys ≠ [])
    (h15 : keys.length ≤ 15) : PE X (.Dict keys values pos) (tDispP X trs) := by
  refine ⟨fun pins s σ H Q I q => ?_⟩
  have hn := I.hok.fresh (Nat.le_refl s.heap.objs.size)
  have I1 := I.laid (a := s.heap.objs.size) (o := .dK []) (h' := s.heap.push { cls := .type "dict", data := .dict #[] }) (t' := s.toks) (fun _ _ q => Heap.get?_push_of_some _ q) (Nat.le_refl _) (dk_empty s.heap I.big)
  have hz : (evalEachOpt keys X.env).zip ((evalEach values X.env).map fun v => do let x ← v; standAt pos; pure x) = (pairTrees keys values X.env pos).map fun p => (some p.1, p.2) := zip_pairTrees keys values X.env pos hall hl
  have hlen : (pairTrees keys values X.env pos).length = keys.length := pairTrees_length keys values X.env pos hall hl
  have hne : pairTrees keys values X.env pos ≠ [] := fun z => by
    rw [z] at hlen
    cases keys with
    | nil => exact h0 rfl
    | cons _ _ => cases hlen
  rw [arm_eval_Dict, hz, dictDisplay_pairs _ hne (by omega)]
  refine wpAny_bind (wpAny_standAt (wpAny_bind ?_))
  unfold subDict
  refine wpAny_bind (wpAny_alloc ?_)
  refine wpAny_bind (wpAny_holding ?_)
  rw [if_pos (by omega)]
  refine wpAny_bind (thn (h.run pins _ σ _ _ I1 (q _ hn)) fun vs s1 ⟨ps, H2, I2, rel, q2⟩ => ?_)
  refine wpAny_holding ?_
  refine wpAny_bind (puts_run hu I2 rel q2 fun H3 s3 I3 q3 => wpAny_pure (wpAny_pure (wpAny_pure ?_)))
  exact ⟨.ref s.heap.objs.size, H3, I3, rfl, q3⟩
section
variable {X : Cx}
/-- {k: v for target in iter if ..}: D the new dict -/
def tDcP (X : Cx) (wi : TI) (g : TG) (tt : TT) (tk tv : TE) (vs : List Nat) : TE := fun σ H Q => wi σ H fun J H1 => ∀ D, H1 D = none → ∃ W : Nat → Nat → Hp → Prop, (∃ m, W 0 m (upd H1 D (.dK []))) ∧ ∀ i m H, W i m H →
  (J.stop i H ∧ Q (.ref D) H) ∨ (J.go i H ∧ ∃ Nx : Hp → Prop, (∀ H', Nx H' → ∃ m', m' < m ∧ W (i + 1) m' H') ∧ ∀ x H', J.yld i H x H' → g x (wipe σ vs) H' fun σ2 H2 => wipe σ2 vs = wipe σ vs ∧ tt σ2 H2 fun b H3 =>
    if b = true then tk σ2 H3 fun y H4 => tv σ2 H4 fun z H5 => ∃ H6, DP X.K X.w H5 D y z H6 ∧ Nx H6 else Nx H3)
/-- as HandS.DictComp's dc_core, the store of any key -/
theorem dc_coreP {pins : List (Addr × Obj)} {s : Shared} {σ : L2.St} {H : Hp} {Q : VK} {kx vx tg iter : Expr} {ifs : List Expr} {scope : Scope} {own : List (Str × Nat)} {pos pos' : Pos} {wi : TI} {g : TG} {tt : TT} {tk tv : TE} {use : Option (Value → Sem Unit)} {Qf : Value → Shared → Prop}
    (hc : X.calm = true) (hN : X.N.Nodup) (I : Inv X pins σ H s) (hi : PI X tg iter wi) (ok : BlkOk X.N X.env.scope scope own)
    (hg : ∀ (s : Shared) (H : Hp) (C : Addr) (cl : List (Str × Addr)) (fp : List Addr), PG (X.blk s H scope (compEnvC scope cl C X.env) fp) tg g) (ht : ∀ (s : Shared) (H : Hp) (C : Addr) (cl : List (Str × Addr)) (fp : List Addr), PTs (X.blk s H scope (compEnvC scope cl C X.env) fp) ifs tt)
    (hk : ∀ (s : Shared) (H : Hp) (C : Addr) (cl : List (Str × Addr)) (fp : List Addr), PE (X.blk s H scope (compEnvC scope cl C X.env) fp) kx tk)
    (he : ∀ (s : Shared) (H : Hp) (C : Addr) (cl : List (Str × Addr)) (fp : List Addr), PE (X.blk s H scope (compEnvC scope cl C X.env) fp) vx tv) (hs : ∀ x, foldedSetIterable iter X.env x = pure x)
    (hu : X.A.units + 64 < cLine) (h : tDcP X wi g tt tk tv (own.map (·.2)) σ H Q)
    (hRR : ∀ D C s' m H', Inv X pins σ H' s' → Q (.ref D) H' → s'.heap.Ns C m → FpOk X pins H' C → compPost (model X.prog X.w) X.A X.xe use Qf (.ref D) C (.ok .next) s') :
    wpAny (model X.prog X.w) X.A (comprehension (.DictComp kx vx [⟨tg, iter, ifs, 0⟩] scope pos) scope X.env pos' newDict false (eval iter X.env) use) Qf X.xe s := by
  have hfree : ∀ y ∈ scope.names, y.2 = .free → ∃ c, X.env.cells.lookup y.1 = some c := fun y hy e => by
    rcases ok.free y hy e with k | k
    · exact I.ok.has _ (.inl k)
    · exact I.ok.has _ (.inr k)
  refine wpAny_comprehension_free (use := use) rfl hs (closure_ok hfree) ok.kind (fun y hy e => by rw [ok.uniq y hy, e])
    (thn (hi.run pins s σ H _ I h) fun xv s1 hx => thn hx fun itv s2 h2 => ?_)
  obtain ⟨it, fp, tn, J, H2, e, I2, T, st2, f2, q⟩ := h2
  subst e
  refine wpAny_newObj_type (newEnv_comp ?_)
  generalize hD : s2.heap.objs.size = D
  have hDn : H2 D = none := I2.hok.fresh (Nat.le_of_eq hD)
  obtain ⟨W, ⟨m0, w0⟩, turn⟩ := q D hDn
  -- the new list
  generalize hs3 : ({ s2 with heap := s2.heap.push { cls := .type "dict", data := .dict #[] } } : Shared) = s3
  have I3 : Inv X pins σ (upd H2 D (.dK [])) s3 := by
    rw [← hs3]
    refine I2.laid (t' := s2.toks) (fun b o e => Heap.get?_push_of_some _ e) (Nat.le_of_eq hD) ?_
    rw [← hD]
    exact dk_empty s2.heap I2.big
  have h3 : s3.heap = s2.heap.push { cls := .type "dict", data := .dict #[] } := by rw [← hs3]
  have sz : ∀ b ∈ fp, b < s2.heap.objs.size := fun b hb => by
    obtain ⟨o, e, _⟩ := T.obj _ _ st2 b hb
    exact Heap.lt_size e
  have f3 : ∀ b ∈ fp, FpOk X pins (upd H2 D (.dK [])) b ∧ b < s3.heap.objs.size := fun b hb => by
    have hlt := sz b hb
    refine ⟨⟨?_, (f2 b hb).2⟩, by rw [h3, Heap.size_push]; exact Nat.lt_succ_of_lt hlt⟩
    rw [upd_ne (by rw [← hD]; exact Nat.ne_of_lt hlt)]
    exact (f2 b hb).1
  have st3 : tn 0 s3.heap := T.keep _ _ _ st2 fun b _ o e => by rw [h3]; exact Heap.get?_push_of_some _ e
  have I4 := block_start I3 ok hN f3
  have pg := hg s3 (upd H2 D (.dK [])) s3.heap.objs.size (cellsFrom (s3.heap.objs.size + 1) scope.names (cloFrom X.env.cells scope.names [])) fp
  have pt := ht s3 (upd H2 D (.dK [])) s3.heap.objs.size (cellsFrom (s3.heap.objs.size + 1) scope.names (cloFrom X.env.cells scope.names [])) fp
  have pk := hk s3 (upd H2 D (.dK [])) s3.heap.objs.size (cellsFrom (s3.heap.objs.size + 1) scope.names (cloFrom X.env.cells scope.names [])) fp
  have pe := he s3 (upd H2 D (.dK [])) s3.heap.objs.size (cellsFrom (s3.heap.objs.size + 1) scope.names (cloFrom X.env.cells scope.names [])) fp
  show codeAny _ _ (.compStart (.DictComp kx vx [⟨tg, iter, ifs, 0⟩] scope pos) 0 (.ref it) (.ref D) (compEnvC scope (cellsFrom (s3.heap.objs.size + 1) scope.names (cloFrom X.env.cells scope.names [])) s3.heap.objs.size X.env)) (compPost (model X.prog X.w) X.A X.xe use Qf (.ref D) s3.heap.objs.size) { s3 with heap := pushCells (s3.heap.push { cls := .type "dict", data := .dict #[] }) scope.names }
  have nfp : ∀ b ∈ fp, (upd H2 D (.dK [])) b = none := fun b hb => (f3 b hb).1.1
  generalize hce : compEnvC scope (cellsFrom (s3.heap.objs.size + 1) scope.names (cloFrom X.env.cells scope.names [])) s3.heap.objs.size X.env = ce at I4 pg pt pk pe ⊢
  have cL : ce.locals = s3.heap.objs.size := by subst hce; rfl
  generalize hH3 : upd H2 D (.dK []) = H3 at I3 I4 pg pt pk pe w0 nfp f3
  generalize hs4 : ({ s3 with heap := pushCells (s3.heap.push { cls := .type "dict", data := .dict #[] }) scope.names } : Shared) = s4 at I4 ⊢
  have st4 : tn 0 s4.heap := T.keep _ _ _ st3 fun b _ o e => by rw [← hs4]; exact pushCells_keeps _ _ _ _ (Heap.get?_push_of_some _ e)
  have stat : ∀ {σ' : L2.St} {H' : Hp} {s' : Shared}, Inv (X.blk s3 H3 scope ce fp) [] σ' H' s' → (∀ b ∈ fp, H' b = none) → ∀ b ∈ fp, FpOk (X.blk s3 H3 scope ce fp) [] H' b := fun {σ' H' s'} I' hn b hb =>
    ⟨hn b hb, (I'.ok.exf b hb).1, I'.ok.exfs b hb, .inl hb, fun x c e => (I'.ok.exf b hb).2 x c e, fun p hp => absurd (show p ∈ ([] : List (Addr × Obj)) ++ [] from hp) (by simp)⟩
  have loop : codeAny (model X.prog X.w) X.A (.compLoop (.DictComp kx vx [⟨tg, iter, ifs, 0⟩] scope pos) 0 (.ref it) (.ref D) ce) (compPost (model X.prog X.w) X.A X.xe use Qf (.ref D) s3.heap.objs.size) s4 := by
    refine compLoop_anyD (fun n s' => ∃ i H', Inv (X.blk s3 H3 scope ce fp) [] (wipe σ (own.map (·.2))) H' s' ∧ tn i s'.heap ∧ (∀ b ∈ fp, H' b = none) ∧ W i n H') ?_ m0 ⟨0, H3, I4, st4, nfp, w0⟩
    rintro n s5 ⟨i, H5, I5, st5, n5, w5⟩
    rcases turn i n H5 w5 with ⟨stop, qq⟩ | ⟨go, Nx, hNx, step⟩
    · have td := T.done (X.blk s3 H3 scope ce fp) rfl rfl rfl hc i [] s5 _ H5 (fun _ _ => False) I5 (stat I5 n5) st5 stop
      refine thnF td fun r s6 ⟨hr, I6⟩ => ?_
      subst hr
      -- back in the def's context
      have I7 : Inv X pins σ H5 s6 := I3.call' (ch := fp) I6.os I6.base I6.hok I6.bare fun b hb => ⟨(f3 b hb).1.2.2.2.1, (f3 b hb).1.2.1, (f3 b hb).1.2.2.2.2.1, (f3 b hb).1.2.2.2.2.2⟩
      have nC : H5 s3.heap.objs.size = none := by
        have z : H5 ce.locals = none := I6.free
        rw [cL] at z
        exact z
      obtain ⟨m, hn, _⟩ := I6.loc
      have hn : s6.heap.Ns ce.locals m := hn
      rw [cL] at hn
      exact hRR D s3.heap.objs.size s6 m H5 I7 qq hn (I3.fpOk (Nat.le_refl _) nC)
    · have ti := T.item (X.blk s3 H3 scope ce fp) rfl rfl rfl hc i [] s5 _ H5 (fun _ _ => False) I5 (stat I5 n5) st5 go
      refine thnF ti fun r s6 ⟨u, hr, h6⟩ => ?_
      subst hr
      refine thnF h6 fun _ s7 ⟨x, H7, I7, r7, y7, st7, n7⟩ => ?_
      have I7' := I7.pinned (stat I7 n7) (T.obj _ _ st7)
      refine thnF (pg.run _ s7 _ H7 x u _ I7' r7 (step x H7 y7)) fun _ s8 ⟨σ8, H8, I8, hw8, q8⟩ => ?_
      refine thnF (pt.run _ s8 σ8 H8 _ I8 q8) fun b s9 ⟨H9, I9, q9⟩ => ?_
      -- the turn's end
      have fin : ∀ {s' : Shared} {H' : Hp}, Inv (X.blk s3 H3 scope ce fp) ([] ++ pinsAt fp s7.heap) σ8 H' s' → Nx H' → ∃ m, m < n ∧ ∃ i H', Inv (X.blk s3 H3 scope ce fp) [] (wipe σ (own.map (·.2))) H' s' ∧ tn i s'.heap ∧ (∀ b ∈ fp, H' b = none) ∧ W i m H' := fun {s' H'} I' nx => by
        obtain ⟨m', hm, w'⟩ := hNx H' nx
        have pin' : ∀ b ∈ fp, ∀ o, s7.heap.get? b = some o → s'.heap.get? b = some o ∧ H' b = none := fun b hb o e =>
          let z := I'.pin (b, o) (List.mem_append_right _ (List.mem_append_right _ (mem_pinsAt hb e)))
          ⟨z.1, z.2.1⟩
        have hl : (wipe σ (own.map (·.2))).length = σ8.length := by rw [← hw8, wipe_length]
        refine ⟨m', hm, i + 1, H', (I'.unpinned (pins := [])).weak hl (fun j v e => ?_), T.keep _ _ _ st7 fun b hb o e => (pin' b hb o e).1, fun b hb => ?_, w'⟩
        · rw [← hw8] at e
          exact (wipe_some e).1
        · obtain ⟨o, e, _⟩ := T.obj _ _ st7 b hb
          exact (pin' b hb o e).2
      cases b with
      | false =>
        simp only [Bool.false_eq_true, if_false] at q9 ⊢
        exact fin I9 q9
      | true =>
        simp only [if_true] at q9 ⊢
        refine thnF (pk.run _ s9 σ8 H9 _ I9 q9) fun z s10 ⟨yk, H10, I10, r10, q10⟩ => ?_
        refine thnF (pe.run _ s10 σ8 H10 _ I10 q10) fun z2 s11 ⟨yv, H11, I11, r11, H12, dp, nx⟩ => ?_
        exact p_dictSet (X := X.blk s3 H3 scope ce fp) hu I11 dp r10 r11 fun s12 I12 => fin I12 nx
  exact codeAny_compStart_dict loop (T.self X.A 0 _ _ _ st4 loop)
theorem pe_dcP {kx vx tg iter : Expr} {ifs : List Expr} {scope : Scope} {own : List (Str × Nat)} {pos : Pos} {wi : TI} {g : TG} {tt : TT} {tk tv : TE} (hc : X.calm = true) (hN : X.N.Nodup) (hi : PI X tg iter wi) (ok : BlkOk X.N X.env.scope scope own)
    (hg : ∀ (s : Shared) (H : Hp) (C : Addr) (cl : List (Str × Addr)) (fp : List Addr), PG (X.blk s H scope (compEnvC scope cl C X.env) fp) tg g) (ht : ∀ (s : Shared) (H : Hp) (C : Addr) (cl : List (Str × Addr)) (fp : List Addr), PTs (X.blk s H scope (compEnvC scope cl C X.env) fp) ifs tt)
    (hk : ∀ (s : Shared) (H : Hp) (C : Addr) (cl : List (Str × Addr)) (fp : List Addr), PE (X.blk s H scope (compEnvC scope cl C X.env) fp) kx tk)
    (he : ∀ (s : Shared) (H : Hp) (C : Addr) (cl : List (Str × Addr)) (fp : List Addr), PE (X.blk s H scope (compEnvC scope cl C X.env) fp) vx tv) (hs : ∀ x, foldedSetIterable iter X.env x = pure x) (hu : X.A.units + 64 < cLine) :
    PE X (.DictComp kx vx [⟨tg, iter, ifs, 0⟩] scope pos) (tDcP X wi g tt tk tv (own.map (·.2))) := by
  refine ⟨fun pins s σ H Q I h => ?_⟩
  rw [arm_eval_DictComp]
  refine dc_coreP hc hN I hi ok hg ht hk he hs hu h fun D C s' m H' I' q hn f => ⟨m, hn, fun h'' sb => ?_⟩
  obtain ⟨f0, f1, f2, f3, f4, f5⟩ := f
  exact ⟨.ref D, H', I'.turned (t' := s'.toks) (fun b o hb e => (sb.2 b hb).trans e) f0 f1 f3 f4 f5, rfl, q⟩
/-- name = {..} on one line, the name a local (as HandS.Comp's ps_setLc) -/
theorem ps_setDcP {i : Nat} {y : Str} {py : Pos} {kx vx tg iter : Expr} {ifs : List Expr} {scope : Scope} {own : List (Str × Nat)} {pos spos : Pos} {wi : TI} {g : TG} {tt : TT} {tk tv : TE} (hc : X.calm = true) (hN : X.N.Nodup) (hy : X.N[i]? = some y) (hyl : X.env.scope.names.lookup y = some .local)
    (hsw : swapsWith (.DictComp kx vx [⟨tg, iter, ifs, 0⟩] scope pos) (some (.Name y py)) spos.line X.env = pure true) (hi : PI X tg iter wi) (ok : BlkOk X.N X.env.scope scope own)
    (hg : ∀ (s : Shared) (H : Hp) (C : Addr) (cl : List (Str × Addr)) (fp : List Addr), PG (X.blk s H scope (compEnvC scope cl C X.env) fp) tg g) (ht : ∀ (s : Shared) (H : Hp) (C : Addr) (cl : List (Str × Addr)) (fp : List Addr), PTs (X.blk s H scope (compEnvC scope cl C X.env) fp) ifs tt)
    (hk : ∀ (s : Shared) (H : Hp) (C : Addr) (cl : List (Str × Addr)) (fp : List Addr), PE (X.blk s H scope (compEnvC scope cl C X.env) fp) kx tk)
    (he : ∀ (s : Shared) (H : Hp) (C : Addr) (cl : List (Str × Addr)) (fp : List Addr), PE (X.blk s H scope (compEnvC scope cl C X.env) fp) vx tv) (hs : ∀ x, foldedSetIterable iter X.env x = pure x) (hu : X.A.units + 64 < cLine) :
    PS X (.Assign [.Name y py] (.DictComp kx vx [⟨tg, iter, ifs, 0⟩] scope pos) spos) (tAsg (tDcP X wi g tt tk tv (own.map (·.2))) (gName i)) := by
  refine ⟨fun pins s σ H D I h => ?_⟩
  rw [exec_Assign_Name_used _ _ _ _ hsw]
  refine wpAny_bind (wpAny_standAt (wpAny_bind ?_))
  show wpAny _ X.A (do let _ ← comprehension (.DictComp kx vx [⟨tg, iter, ifs, 0⟩] scope pos) scope X.env (firstIterPos [⟨tg, iter, ifs, 0⟩] pos) newDict false (eval iter X.env) (some (assign (.Name y py) X.env))) _ _ s
  have h : tDcP X wi g tt tk tv (own.map (·.2)) σ H (fun x H1 => gName i x σ H1 D.nx) := h
  refine wpAny_bind (thn (dc_coreP (Qf := fun _ s' => SP X pins D .next s') hc hN I hi ok hg ht hk he hs hu h fun L C s' m H' I' q hn f => ?_) fun _ s' hq => wpAny_pure (wpAny_pure hq))
  show wpAny _ _ (assign (.Name y py) X.env (.ref L)) _ _ _
  refine wpAny_assign_Name (store_ok2 (v := V.ref L) I' hN hy (.inl hyl) rfl (fun s2 I2 ⟨a, sb, ha⟩ => ?_) (.inr hyl))
  have haC : C ≠ a := by
    rcases ha with z | z
    · rw [z]; exact f.2.1
    · exact fun e => f.2.2.2.2.1 y a z e.symm
  refine ⟨m, hn.sameBut sb haC, fun h3 sb3 => ⟨_, H', I2.turned (t' := s2.toks) (fun b o hb e => (sb3.2 b hb).trans e) f.1 f.2.1 f.2.2.2.1 f.2.2.2.2.1 f.2.2.2.2.2, q⟩⟩
end
end Ev

set_option Elab.async false
set_option linter.all false
set_option maxRecDepth 100000
/-! Ev7: data: equality, membership, order. -/
namespace Ev
open PySem PySem.Spec PyProof.Rows L2

noncomputable def toD (h : Hh) : Nat → PV → PyData
  | 0, _ => .none
  | d + 1, v => match v with
    | .non => .none
    | .bl b => .bool b
    | .int i => .int i
    | .str x => .str x
    | .tup xs => .tuple (xs.map (toD h d))
    | v => match lsOf h v with
      | some xs => .list (xs.map (toD h d))
      | none => .none
theorem lsOf_lst {h : Hh} {n : Nat} {xs : List PV} (z : h.get n = some (.lst xs)) : lsOf h (.ref n) = some xs := by
  show (match h.get n with
    | some (.lst xs) => some xs
    | _ => none) = _
  rw [z]
theorem allP_cons {f : PV → Bool} {x : PV} {xs : List PV} (e : allP f (x :: xs) = true) : f x = true ∧ allP f xs = true := by
  have e : (match f x with
    | true => allP f xs
    | false => false) = true := e
  cases z : f x with
  | false => rw [z] at e; cases e
  | true => rw [z] at e; exact ⟨rfl, e⟩
section
variable {K : PySem.W.Frag} {cl : Nat → Addr} {fn : Nm} {m : List Addr} {H : Hp} {h : Hh}
theorem dps_ok {d : Nat} (ih : ∀ p x, dataV h d p = true → VR K m H p x → Dp K H x (toD h d p)) : ∀ {ps : List PV} {vs : List V}, allP (dataV h d) ps = true → VRs K m H ps vs → DpAll K H vs (ps.map (toD h d))
  | _, _, _, .nil => .nil
  | _, _, e, .cons r t => by
    obtain ⟨e1, e2⟩ := allP_cons e
    exact .cons (ih _ _ e1 r) (dps_ok ih e2 t)
theorem dp_ok (r : HR K cl fn m H h) : ∀ (d : Nat) (p : PV) (x : V), dataV h d p = true → VR K m H p x → Dp K H x (toD h d p)
  | 0, _, _, e, _ => by cases e
  | d + 1, p, x, e, q => by
    cases p with
    | non => cases q; exact .non
    | bl b => cases q; exact .bl b
    | int i => cases q; exact .int i
    | str s => cases q; exact .str s
    | tup ps =>
      obtain ⟨a, vs, rfl, h1, h2⟩ := q.tup_inv
      exact .tup h1 (dps_ok (dp_ok r d) e h2)
    | fro ps =>
      obtain ⟨a, vs, rfl, h1, h2⟩ := q.fro_inv
      exact .lst h1.sql (dps_ok (dp_ok r d) e h2)
    | ref n =>
      have e : (match h.get n with
        | some (.lst xs) => allP (dataV h d) xs
        | _ => false) = true := e
      cases z : h.get n with
      | none => rw [z] at e; cases e
      | some o =>
        rw [z] at e
        cases o with
        | lst xs =>
          have el : lsOf h (.ref n) = some xs := lsOf_lst z
          obtain ⟨a, vs, rfl, h1, h2⟩ := lsOf_sql r q el
          have et : toD h (d + 1) (.ref n) = .list (xs.map (toD h d)) := by
            show (match lsOf h (.ref n) with
              | some xs => PyData.list (xs.map (toD h d))
              | none => .none) = _
            rw [el]
          rw [et]
          exact .lst h1 (dps_ok (dp_ok r d) e h2)
        | _ => cases e
theorem plains_ok {h : Hh} {d : Nat} (ih : ∀ p, (toD h d p).plain = true) : ∀ ps : List PV, PyData.plainAll (ps.map (toD h d)) = true
  | [] => rfl
  | p :: ps => by
    show ((toD h d p).plain && PyData.plainAll (ps.map (toD h d))) = true
    rw [ih p, plains_ok ih ps]; rfl
theorem plain_ok (h : Hh) : ∀ (d : Nat) (p : PV), (toD h d p).plain = true
  | 0, _ => rfl
  | d + 1, p => by
    cases p with
    | non => rfl
    | bl b => rfl
    | int i => rfl
    | str s => rfl
    | tup ps => exact plains_ok (plain_ok h d) ps
    | fro ps => exact plains_ok (plain_ok h d) ps
    | ref n =>
      show PyData.plain (match lsOf h (.ref n) with
        | some xs => PyData.list (xs.map (toD h d))
        | none => .none) = true
      cases lsOf h (.ref n) with
      | none => rfl
      | some xs => exact plains_ok (plain_ok h d) xs
theorem depths_ok {h : Hh} {d : Nat} (ih : ∀ p, (toD h d p).depth ≤ d) : ∀ ps : List PV, PyData.depthAll (ps.map (toD h d)) ≤ d
  | [] => Nat.zero_le _
  | p :: ps => by
    have h1 := ih p
    have h2 := depths_ok ih ps
    show PyData.depthAll (toD h d p :: ps.map (toD h d)) ≤ d
    unfold PyData.depthAll
    omega
theorem depth_ok (h : Hh) : ∀ (d : Nat) (p : PV), (toD h d p).depth ≤ d
  | 0, _ => Nat.le_of_eq (by simp [toD, PyData.depth])
  | d + 1, p => by
    have hl : ∀ ps : List PV, PyData.depth (.list (ps.map (toD h d))) ≤ d + 1 := fun ps => by
      have := depths_ok (depth_ok h d) ps
      unfold PyData.depth
      omega
    have ht : ∀ ps : List PV, PyData.depth (.tuple (ps.map (toD h d))) ≤ d + 1 := fun ps => by
      have := depths_ok (depth_ok h d) ps
      unfold PyData.depth
      omega
    cases p with
    | non => simp [toD, PyData.depth]
    | bl b => simp [toD, PyData.depth]
    | int i => simp [toD, PyData.depth]
    | str s => simp [toD, PyData.depth]
    | tup ps => exact ht ps
    | fro ps => exact hl ps
    | ref n =>
      show PyData.depth (match lsOf h (.ref n) with
        | some xs => PyData.list (xs.map (toD h d))
        | none => .none) ≤ _
      cases lsOf h (.ref n) with
      | none => simp [PyData.depth]
      | some xs => exact hl xs
theorem eqs_ok {f : PV → PV → Bool} {t : PV → PyData} {g : PV → Bool} (ih : ∀ p q, g p = true → g q = true → f p q = PyData.eqv (t p) (t q)) : ∀ ps qs : List PV, allP g ps = true → allP g qs = true → eqs f ps qs = PyData.eqvAll (ps.map t) (qs.map t)
  | [], [], _, _ => rfl
  | [], _ :: _, _, _ => rfl
  | _ :: _, [], _, _ => rfl
  | p :: ps, q :: qs, e1, e2 => by
    obtain ⟨a1, a2⟩ := allP_cons e1
    obtain ⟨b1, b2⟩ := allP_cons e2
    show (match f p q with
      | true => eqs f ps qs
      | false => false) = (PyData.eqv (t p) (t q) && PyData.eqvAll (ps.map t) (qs.map t))
    rw [ih p q a1 b1, eqs_ok ih ps qs a2 b2]
    cases PyData.eqv (t p) (t q) <;> rfl
theorem int_beq (i j : Int) : (i == j) = decide (i = j) := by
  by_cases e : i = j
  · subst e; simp
  · simp [e]
theorem str_beq (i j : Str) : (i == j) = decide (i = j) := by
  by_cases e : i = j
  · subst e; simp
  · simp [e]
theorem b2n_if (b : Bool) : b2n b = if b then 1 else 0 := by cases b <;> rfl
/-- what stands under a list's place in toD -/
theorem toD_list (h : Hh) (d : Nat) {v : PV} {xs : List PV} (e : lsOf h v = some xs) : toD h (d + 1) v = .list (xs.map (toD h d)) := by
  cases v with
  | fro ys => cases e; rfl
  | ref n =>
    show (match lsOf h (.ref n) with
      | some xs => PyData.list (xs.map (toD h d))
      | none => .none) = _
    rw [e]
  | _ => cases e
theorem dataV_list {h : Hh} {d : Nat} {v : PV} {xs : List PV} (e : lsOf h v = some xs) (k : dataV h (d + 1) v = true) : allP (dataV h d) xs = true := by
  cases v with
  | fro ys => cases e; exact k
  | ref n =>
    have k : (match h.get n with
      | some (.lst xs) => allP (dataV h d) xs
      | _ => false) = true := k
    have e : (match h.get n with
      | some (.lst xs) => some xs
      | _ => none) = some xs := e
    cases z : h.get n with
    | none => rw [z] at k; cases k
    | some o =>
      rw [z] at k e
      cases o with
      | lst ys => cases e; exact k
      | _ => cases k
  | _ => cases e
theorem dataV_ref {h : Hh} {d n : Nat} (k : dataV h (d + 1) (.ref n) = true) : ∃ xs, lsOf h (.ref n) = some xs := by
  have k : (match h.get n with
    | some (.lst xs) => allP (dataV h d) xs
    | _ => false) = true := k
  cases z : h.get n with
  | none => rw [z] at k; cases k
  | some o =>
    rw [z] at k
    cases o with
    | lst ys => exact ⟨ys, lsOf_lst z⟩
    | _ => cases k
/-- every datum is one of these -/
theorem data_cases {h : Hh} {d : Nat} {v : PV} (k : dataV h (d + 1) v = true) : v = .non ∨ (∃ b, v = .bl b) ∨ (∃ i, v = .int i) ∨ (∃ x, v = .str x) ∨ (∃ xs, v = .tup xs) ∨ ∃ xs, lsOf h v = some xs := by
  cases v with
  | non => exact .inl rfl
  | bl b => exact .inr (.inl ⟨b, rfl⟩)
  | int i => exact .inr (.inr (.inl ⟨i, rfl⟩))
  | str x => exact .inr (.inr (.inr (.inl ⟨x, rfl⟩)))
  | tup xs => exact .inr (.inr (.inr (.inr (.inl ⟨xs, rfl⟩))))
  | fro xs => exact .inr (.inr (.inr (.inr (.inr ⟨xs, rfl⟩))))
  | ref n => exact .inr (.inr (.inr (.inr (.inr (dataV_ref k)))))
theorem deq_ls {h : Hh} {d : Nat} {a b : PV} {xs ys : List PV} (e1 : lsOf h a = some xs) (e2 : lsOf h b = some ys) : deq h (d + 1) a b = eqs (deq h d) xs ys := by
  cases a with
  | fro zs =>
    show (match lsOf h (.fro zs) with
      | some xs => match lsOf h b with
        | some ys => eqs (deq h d) xs ys
        | none => false
      | none => false) = _
    rw [e1, e2]
  | ref n =>
    show (match lsOf h (.ref n) with
      | some xs => match lsOf h b with
        | some ys => eqs (deq h d) xs ys
        | none => false
      | none => false) = _
    rw [e1, e2]
  | _ => cases e1
theorem deq_lsL {h : Hh} {d : Nat} {a b : PV} {xs : List PV} (e1 : lsOf h a = some xs) (e2 : lsOf h b = none) : deq h (d + 1) a b = false := by
  cases a with
  | fro zs =>
    show (match lsOf h (.fro zs) with
      | some xs => match lsOf h b with
        | some ys => eqs (deq h d) xs ys
        | none => false
      | none => false) = _
    rw [e1, e2]
  | ref n =>
    show (match lsOf h (.ref n) with
      | some xs => match lsOf h b with
        | some ys => eqs (deq h d) xs ys
        | none => false
      | none => false) = _
    rw [e1, e2]
  | _ => cases e1
theorem deq_lsR {h : Hh} {d : Nat} {a b : PV} {ys : List PV} (ea : a = .non ∨ (∃ b, a = .bl b) ∨ (∃ i, a = .int i) ∨ (∃ x, a = .str x) ∨ (∃ xs, a = .tup xs)) (e2 : lsOf h b = some ys) : deq h (d + 1) a b = false := by
  rcases ea with rfl | ⟨x, rfl⟩ | ⟨x, rfl⟩ | ⟨x, rfl⟩ | ⟨x, rfl⟩ <;> cases b <;> first | rfl | cases e2
theorem deq_ok (h : Hh) : ∀ (d : Nat) (p q : PV), dataV h d p = true → dataV h d q = true → deq h d p q = PyData.eqv (toD h d p) (toD h d q)
  | 0, _, _, e, _ => by cases e
  | d + 1, p, q, e1, e2 => by
    rcases data_cases e1 with rfl | ⟨x, rfl⟩ | ⟨x, rfl⟩ | ⟨x, rfl⟩ | ⟨xs, rfl⟩ | ⟨xs, lx⟩ <;> rcases data_cases e2 with rfl | ⟨y, rfl⟩ | ⟨y, rfl⟩ | ⟨y, rfl⟩ | ⟨ys, rfl⟩ | ⟨ys, ly⟩
    all_goals first
      | rfl
      | (rw [deq_lsR (by simp) ly, toD_list h d ly]; rfl)
      | (rw [deq_lsL lx rfl, toD_list h d lx]; rfl)
      | skip
    · show intEq (b2n x) y = ((if x then 1 else 0) == y)
      rw [intEq_eq, b2n_if, int_beq]
    · show intEq x (b2n y) = (x == (if y then 1 else 0))
      rw [intEq_eq, b2n_if, int_beq]
    · show intEq x y = (x == y)
      rw [intEq_eq, int_beq]
    · show strF x y = (x == y)
      rw [strF_eq, str_beq]
    · exact eqs_ok (deq_ok h d) xs ys e1 e2
    · rw [deq_ls lx ly, toD_list h d lx, toD_list h d ly]
      exact eqs_ok (deq_ok h d) xs ys (dataV_list lx e1) (dataV_list ly e2)
/-- equality told -/
theorem veq_ok {p q : PV} {b : Bool} (e : veq h p q = some b) : dataV h depthMax p = true ∧ dataV h depthMax q = true ∧ b = PyData.eqv (toD h depthMax p) (toD h depthMax q) := by
  unfold veq at e
  cases z : scalar p && scalar q with
  | true =>
    rw [z] at e
    obtain ⟨z1, z2⟩ := Bool.and_eq_true_iff.mp z
    have hp : dataV h depthMax p = true := by cases p <;> first | rfl | cases z1
    have hq : dataV h depthMax q = true := by cases q <;> first | rfl | cases z2
    refine ⟨hp, hq, ?_⟩
    rw [← deq_ok h depthMax p q hp hq]
    cases e
    cases p <;> first | (cases z1; done) | (cases q <;> first | (cases z2; done) | rfl)
  | false =>
    rw [z] at e
    cases z3 : dataV h depthMax p && dataV h depthMax q with
    | false => rw [z3] at e; cases e
    | true =>
      rw [z3] at e
      obtain ⟨z1, z2⟩ := Bool.and_eq_true_iff.mp z3
      cases e
      exact ⟨z1, z2, deq_ok h depthMax p q z1 z2⟩
theorem anyQ_ok {a : PV} (ea : dataV h depthMax a = true) : ∀ {xs : List PV}, allP (dataV h depthMax) xs = true → anyQ h a xs = ((xs.map (toD h depthMax)).any fun y => PyData.eqv y (toD h depthMax a))
  | [], _ => rfl
  | x :: xs, e => by
    obtain ⟨e1, e2⟩ := allP_cons e
    show (match deq h depthMax x a with
      | true => true
      | false => anyQ h a xs) = _
    rw [deq_ok h depthMax x a e1 ea, anyQ_ok ea e2, List.map_cons, List.any_cons]
    cases PyData.eqv (toD h depthMax x) (toD h depthMax a) <;> rfl
theorem memL_ok {a : PV} {xs : List PV} {b : Bool} (e : memL h a xs = some b) : dataV h depthMax a = true ∧ allP (dataV h depthMax) xs = true ∧ b = ((xs.map (toD h depthMax)).any fun y => PyData.eqv y (toD h depthMax a)) := by
  unfold memL at e
  cases z : dataV h depthMax a && allP (dataV h depthMax) xs with
  | false => rw [z] at e; cases e
  | true =>
    rw [z] at e
    obtain ⟨z1, z2⟩ := Bool.and_eq_true_iff.mp z
    cases e
    exact ⟨z1, z2, anyQ_ok z1 z2⟩
end

/-! ### the rules -/
abbrev depD : Nat := 50
def rEqP (K : PySem.W.Frag) (neg : Bool) : R2 := fun x y H Q => ∃ d e, Dp K H x d ∧ Dp K H y e ∧ d.plain = true ∧ e.plain = true ∧ e.depth ≤ 50 ∧ Q (.bl (xor neg (PyData.eqv d e))) H
def rMemP (K : PySem.W.Frag) (neg : Bool) : R2 := fun x y H Q => ∃ a ds e xs, y = .ref a ∧ (SqL K H a xs ∨ SqT K H a xs) ∧ DpAll K H xs ds ∧ Dp K H x e ∧ PyData.plainAll ds = true ∧ e.plain = true ∧ e.depth ≤ 50 ∧ Q (.bl (xor neg (ds.any fun z => PyData.eqv z e))) H
section
variable {X : Cx} {cl : Nat → Addr} {fn : Nm}
theorem op_eqP (hu : X.A.units + 64 < cLine) : OpR X (compareOp .Eq) (rEqP X.K false) := by
  intro pins s σ H x y v u Q I rx ry h
  obtain ⟨d, e, hd, he, sd, se, hdep, q⟩ := h
  obtain ⟨as, r1⟩ := Dp.reads I d x v hd rx
  obtain ⟨bs, r2⟩ := Dp.reads I e y u he ry
  have : min d.depth e.depth ≤ 50 := Nat.le_trans (Nat.min_le_right _ _) hdep
  exact SeqAt.eq_plain r1 r2 sd se (by omega) ⟨.bl _, H, I, rfl, by simpa using q⟩
theorem op_neP (hu : X.A.units + 64 < cLine) : OpR X (compareOp .NotEq) (rEqP X.K true) := by
  intro pins s σ H x y v u Q I rx ry h
  obtain ⟨d, e, hd, he, sd, se, hdep, q⟩ := h
  obtain ⟨as, r1⟩ := Dp.reads I d x v hd rx
  obtain ⟨bs, r2⟩ := Dp.reads I e y u he ry
  have : min d.depth e.depth ≤ 50 := Nat.le_trans (Nat.min_le_right _ _) hdep
  exact SeqAt.ne_plain r1 r2 sd se (by omega) ⟨.bl _, H, I, rfl, by simpa using q⟩
theorem op_inP (hu : X.A.units + 64 < cLine) : OpR X (compareOp .In) (rMemP X.K false) := by
  intro pins s σ H x y v u Q I rx ry h
  obtain ⟨a, ds, e, xs, rfl, hs, hd, he, sd, se, hdep, q⟩ := h
  obtain ⟨as, r1⟩ := Dp.reads I e x v he rx
  have : min (PyData.depthAll ds) e.depth ≤ 50 := Nat.le_trans (Nat.min_le_right _ _) hdep
  rcases hs with hs | hs
  · obtain ⟨bs, r2⟩ := Dp.reads I (.list ds) (.ref a) u (.lst hs hd) ry
    exact SeqAt.in_list_data r2 r1 sd se (by omega) ⟨.bl _, H, I, rfl, by simpa using q⟩
  · obtain ⟨bs, r2⟩ := Dp.reads I (.tuple ds) (.ref a) u (.tup hs hd) ry
    exact SeqAt.in_tuple_data r2 r1 sd se (by omega) ⟨.bl _, H, I, rfl, by simpa using q⟩
theorem op_ninP (hu : X.A.units + 64 < cLine) : OpR X (compareOp .NotIn) (rMemP X.K true) := by
  intro pins s σ H x y v u Q I rx ry h
  obtain ⟨a, ds, e, xs, rfl, hs, hd, he, sd, se, hdep, q⟩ := h
  obtain ⟨as, r1⟩ := Dp.reads I e x v he rx
  have : min (PyData.depthAll ds) e.depth ≤ 50 := Nat.le_trans (Nat.min_le_right _ _) hdep
  rcases hs with hs | hs
  · obtain ⟨bs, r2⟩ := Dp.reads I (.list ds) (.ref a) u (.lst hs hd) ry
    exact SeqAt.notIn_list_data r2 r1 sd se (by omega) ⟨.bl _, H, I, rfl, by simpa using q⟩
  · obtain ⟨bs, r2⟩ := Dp.reads I (.tuple ds) (.ref a) u (.tup hs hd) ry
    exact SeqAt.notIn_tuple_data r2 r1 sd se (by omega) ⟨.bl _, H, I, rfl, by simpa using q⟩
theorem ov_eq {K : PySem.W.Frag} : OpV K cl fn (copV .eq) (rEqP K false) := by
  intro m H h p q x y Q r vp vq k
  have k : OkE K cl fn (match veq h p q with
    | some r => .ok (.bl r) h
    | none => .no 20) m H Q := k
  cases e : veq h p q with
  | none => rw [e] at k; exact k.elim
  | some b =>
    rw [e] at k
    obtain ⟨e1, e2, rfl⟩ := veq_ok e
    refine ⟨_, _, dp_ok r _ _ _ e1 vp, dp_ok r _ _ _ e2 vq, plain_ok h _ _, plain_ok h _ _, depth_ok h _ _, ?_⟩
    have := k.give r (.bl _)
    simpa using this
theorem ov_ne {K : PySem.W.Frag} : OpV K cl fn (copV .ne) (rEqP K true) := by
  intro m H h p q x y Q r vp vq k
  have k : OkE K cl fn (match veq h p q with
    | some r => .ok (.bl (!r)) h
    | none => .no 20) m H Q := k
  cases e : veq h p q with
  | none => rw [e] at k; exact k.elim
  | some b =>
    rw [e] at k
    obtain ⟨e1, e2, rfl⟩ := veq_ok e
    refine ⟨_, _, dp_ok r _ _ _ e1 vp, dp_ok r _ _ _ e2 vq, plain_ok h _ _, plain_ok h _ _, depth_ok h _ _, ?_⟩
    have := k.give r (.bl _)
    simpa using this
abbrev rIsN (neg : Bool) : R2 := fun x y H Q => y = .non ∧ Q (.bl (xor neg (decide (x = .non)))) H
theorem op_isP : OpR X (compareOp .Is) (rIsN false) := by
  intro pins s σ H x y v u Q I rx ry h
  obtain ⟨h1, h2⟩ := h
  exact op_isN pins s σ H x y v u Q I rx ry ⟨h1, by simpa using h2⟩
theorem op_isnP : OpR X (compareOp .IsNot) (rIsN true) := by
  intro pins s σ H x y v u Q I rx ry h
  obtain ⟨h1, h2⟩ := h
  exact op_notN pins s σ H x y v u Q I rx ry ⟨h1, by simpa using h2⟩
theorem isNon_ok {K : PySem.W.Frag} {m : List Addr} {H : Hp} {p : PV} {x : V} (r : VR K m H p x) : isNon p = decide (x = .non) := by
  cases r <;> simp [isNon]
theorem ov_is {K : PySem.W.Frag} (neg : Bool) : OpV K cl fn (isV neg) (rIsN neg) := by
  intro m H h p q x y Q r vp vq k
  cases q with
  | non =>
    cases vq
    have k : OkE K cl fn (.ok (.bl (xor neg (isNon p))) h) m H Q := k
    rw [isNon_ok vp] at k
    exact ⟨rfl, k.give r (.bl _)⟩
  | _ => exact k.elim
theorem intLt_ok (i j : Int) : intLt i j = decide (i < j) := by
  unfold intLt
  cases e : j - i with
  | ofNat n =>
    cases n with
    | zero =>
      have e : j - i = 0 := e
      have : ¬ i < j := by omega
      simp [this]
    | succ n =>
      have e : j - i = ((n + 1 : Nat) : Int) := e
      have : i < j := by omega
      simp [this]
  | negSucc n =>
    have : ¬ i < j := by omega
    simp [this]
theorem natsLt_ok : ∀ a b : List Nat, natsLt a b = decide (a < b)
  | [], [] => by simp [natsLt]
  | [], _ :: _ => by simp [natsLt]
  | _ :: _, [] => by simp [natsLt]
  | a :: x, b :: y => by
    show (match Nat.beq a b with
      | true => natsLt x y
      | false => Nat.blt a b) = _
    rw [natsLt_ok x y]
    have hl : (a :: x < b :: y) ↔ (a < b ∨ a = b ∧ x < y) := List.cons_lt_cons_iff
    cases e : Nat.beq a b with
    | true =>
      have := Nat.eq_of_beq_eq_true e
      subst this
      simp [hl]
    | false =>
      have ne := Nat.ne_of_beq_eq_false e
      show Nat.blt a b = _
      have : Nat.blt a b = decide (a < b) := by
        by_cases z : a < b
        · rw [decide_eq_true z]; exact Nat.ble_eq_true_of_le z
        · rw [decide_eq_false z]
          cases q : Nat.blt a b with
          | false => rfl
          | true => exact absurd (Nat.le_of_ble_eq_true q) z
      rw [this]
      simp [hl, ne]
abbrev rLtI (neg : Bool) : R2 := fun x y H Q => ∃ i j : Int, x = .int i ∧ y = .int j ∧ Q (.bl (xor neg (decide (i < j)))) H
end
end Ev

set_option Elab.async false
set_option linter.all false
set_option maxRecDepth 100000
/-! EvS0: data of one shape; its order. -/
namespace Ev
open PySem PySem.Spec PyProof.Rows L2
open PySem.W (alike alikeAll keyToks keyToksAll dataLt toks_all_cons dataLt_tuple dataLt_cons dataLt_int dataLt_str dataLt_bool alike_comm)

/-! ### shapes -/
theorem confs_cons {f : Sg → PV → Bool} {x : PV} {xs : List PV} {ss : List Sg} (e : confs f ss (x :: xs) = true) : ∃ s ss', ss = s :: ss' ∧ f s x = true ∧ confs f ss' xs = true := by
  cases ss with
  | nil => cases e
  | cons s ss =>
    have e : (match f s x with
      | true => confs f ss xs
      | false => false) = true := e
    cases z : f s x with
    | false => rw [z] at e; cases e
    | true => rw [z] at e; exact ⟨s, ss, rfl, z, e⟩
theorem confs_two {f : Sg → PV → Bool} {x y : PV} {xs ys : List PV} {ss : List Sg} (e : confs f ss (x :: xs) = true) (e' : confs f ss (y :: ys) = true) : ∃ s ss', f s x = true ∧ f s y = true ∧ confs f ss' xs = true ∧ confs f ss' ys = true := by
  obtain ⟨s, ss', rfl, e1, e2⟩ := confs_cons e
  obtain ⟨_, _, z, e3, e4⟩ := confs_cons e'
  cases z
  exact ⟨s, ss', e1, e3, e2, e4⟩
section
variable {h : Hh}
theorem confs_data {d : Nat} (ih : ∀ s p, conf d s p = true → dataV h d p = true) : ∀ (xs : List PV) (ss : List Sg), confs (conf d) ss xs = true → allP (dataV h d) xs = true
  | [], _, _ => rfl
  | x :: xs, ss, e => by
    obtain ⟨s, ss', rfl, e1, e2⟩ := confs_cons e
    show (match dataV h d x with
      | true => allP (dataV h d) xs
      | false => false) = true
    rw [ih s x e1]
    exact confs_data ih xs ss' e2
theorem conf_data : ∀ (d : Nat) (s : Sg) (p : PV), conf d s p = true → dataV h d p = true
  | 0, _, _, e => by cases e
  | d + 1, s, p, e => by
    cases p with
    | tup xs =>
      cases s with
      | tup ss => exact confs_data (conf_data d) xs ss e
      | _ => cases e
    | fro _ => cases s <;> cases e
    | ref _ => cases s <;> cases e
    | _ => rfl
theorem confs_alike {d : Nat} (ih : ∀ s p q, conf d s p = true → conf d s q = true → alike (toD h d p) (toD h d q) = true) : ∀ (xs ys : List PV) (ss : List Sg), confs (conf d) ss xs = true → confs (conf d) ss ys = true → alikeAll (xs.map (toD h d)) (ys.map (toD h d)) = true
  | [], _, _, _, _ => by simp [alikeAll]
  | _ :: _, [], _, _, _ => by simp [alikeAll]
  | x :: xs, y :: ys, ss, e, e' => by
    obtain ⟨s, ss', e1, e3, e2, e4⟩ := confs_two e e'
    show alikeAll (toD h d x :: xs.map (toD h d)) (toD h d y :: ys.map (toD h d)) = true
    rw [alikeAll, ih s x y e1 e3, confs_alike ih xs ys ss' e2 e4]
    rfl
/-- two values of one shape -/
inductive Two (d : Nat) : PV → PV → Prop
  | int (i j : Int) : Two d (.int i) (.int j)
  | str (x y : Str) : Two d (.str x) (.str y)
  | bl (x y : Bool) : Two d (.bl x) (.bl y)
  | non : Two d .non .non
  | tup {xs ys : List PV} {ss : List Sg} : confs (conf d) ss xs = true → confs (conf d) ss ys = true → Two d (.tup xs) (.tup ys)
theorem two_of {d : Nat} {s : Sg} {p q : PV} (e : conf (d + 1) s p = true) (e' : conf (d + 1) s q = true) : Two d p q := by
  cases s with
  | int =>
    cases p <;> first
      | (cases e; done)
      | (cases q <;> first
        | (cases e'; done)
        | exact .int _ _)
  | str =>
    cases p <;> first
      | (cases e; done)
      | (cases q <;> first
        | (cases e'; done)
        | exact .str _ _)
  | bl =>
    cases p <;> first
      | (cases e; done)
      | (cases q <;> first
        | (cases e'; done)
        | exact .bl _ _)
  | non =>
    cases p <;> first
      | (cases e; done)
      | (cases q <;> first
        | (cases e'; done)
        | exact .non)
  | tup ss =>
    cases p <;> first
      | (cases e; done)
      | (cases q <;> first
        | (cases e'; done)
        | exact .tup e e')
theorem conf_alike : ∀ (d : Nat) (s : Sg) (p q : PV), conf d s p = true → conf d s q = true → alike (toD h d p) (toD h d q) = true
  | 0, _, _, _, e, _ => by cases e
  | d + 1, s, p, q, e, e' => by
    cases two_of e e' with
    | int i j => simp [toD, alike]
    | str x y => simp [toD, alike]
    | bl x y => simp [toD, alike]
    | non => simp [toD, alike]
    | @tup xs ys ss q1 q2 =>
      show alike (.tuple (xs.map (toD h d))) (.tuple (ys.map (toD h d))) = true
      rw [alike]
      exact confs_alike (conf_alike d) xs ys ss q1 q2
theorem lex_nil_cons (y : PyData) (ys : List PyData) : PyProof.Rows.lexLt itemOrd (keyToksAll []) (keyToksAll (y :: ys)) = true := by
  rw [toks_all_cons, keyToksAll, lex_diff (O := itemOrd) (by intro z; cases z)]
  rfl
theorem lex_cons_nil (x : PyData) (xs : List PyData) : PyProof.Rows.lexLt itemOrd (keyToksAll (x :: xs)) (keyToksAll []) = false := by
  rw [toks_all_cons, keyToksAll, lex_diff (O := itemOrd) (by intro z; cases z)]
  rfl
theorem natsLt_eq : ∀ a b : List Nat, natsLt a b = decide (a < b)
  | [], [] => by simp [natsLt]
  | [], _ :: _ => by simp [natsLt]
  | _ :: _, [] => by simp [natsLt]
  | a :: x, b :: y => by
    unfold natsLt
    cases z : Nat.beq a b with
    | true =>
      have := Nat.eq_of_beq_eq_true z
      subst this
      simp only []
      rw [natsLt_eq x y]
      simp
    | false =>
      have hne := Nat.ne_of_beq_eq_false z
      simp only []
      have e : (a :: x < b :: y) ↔ a < b := by
        rw [List.cons_lt_cons_iff]
        constructor
        · rintro (h | ⟨h, _⟩)
          · exact h
          · exact absurd h hne
        · exact .inl
      have : Nat.blt a b = decide (a < b) := by
        by_cases h : a < b
        · rw [decide_eq_true h]; exact Nat.ble_eq.mpr h
        · rw [decide_eq_false h]
          cases q : Nat.blt a b with
          | false => rfl
          | true => exact absurd (Nat.le_of_ble_eq_true q) h
      rw [this]
      simp only [e]
theorem confs_eq {d : Nat} (ih : ∀ s p q, conf d s p = true → conf d s q = true → keq d p q = PyData.eqv (toD h d p) (toD h d q)) : ∀ (xs ys : List PV) (ss : List Sg), confs (conf d) ss xs = true → confs (conf d) ss ys = true → eqs (keq d) xs ys = PyData.eqvAll (xs.map (toD h d)) (ys.map (toD h d))
  | [], [], _, _, _ => by simp [eqs, PyData.eqvAll]
  | [], _ :: _, _, _, _ => by simp [eqs, PyData.eqvAll]
  | _ :: _, [], _, _, _ => by simp [eqs, PyData.eqvAll]
  | x :: xs, y :: ys, ss, e, e' => by
    obtain ⟨s, ss', e1, e3, e2, e4⟩ := confs_two e e'
    show (match keq d x y with
      | true => eqs (keq d) xs ys
      | false => false) = PyData.eqvAll (toD h d x :: xs.map (toD h d)) (toD h d y :: ys.map (toD h d))
    rw [PyData.eqvAll, ih s x y e1 e3, confs_eq ih xs ys ss' e2 e4]
    cases PyData.eqv (toD h d x) (toD h d y) <;> rfl
theorem conf_eq : ∀ (d : Nat) (s : Sg) (p q : PV), conf d s p = true → conf d s q = true → keq d p q = PyData.eqv (toD h d p) (toD h d q)
  | 0, _, _, _, e, _ => by cases e
  | d + 1, s, p, q, e, e' => by
    cases two_of e e' with
    | int i j => simp [keq, toD, PyData.eqv, intEq_eq, Bool.beq_eq_decide_eq]
    | str x y => simp [keq, toD, PyData.eqv, strF_eq, Bool.beq_eq_decide_eq]
    | bl x y => simp [keq, toD, PyData.eqv]
    | non => simp [keq, toD, PyData.eqv]
    | @tup xs ys ss q1 q2 =>
      show eqs (keq d) xs ys = PyData.eqv (.tuple (xs.map (toD h d))) (.tuple (ys.map (toD h d)))
      rw [PyData.eqv]
      exact confs_eq (conf_eq d) xs ys ss q1 q2
theorem confs_lt {d : Nat} (ih : ∀ s p q, conf d s p = true → conf d s q = true → ltP d p q = dataLt (toD h d p) (toD h d q)) : ∀ (xs ys : List PV) (ss : List Sg), confs (conf d) ss xs = true → confs (conf d) ss ys = true →
    ltsQ (keq d) (ltP d) xs ys = PyProof.Rows.lexLt itemOrd (keyToksAll (xs.map (toD h d))) (keyToksAll (ys.map (toD h d)))
  | [], [], _, _, _ => (lex_irrefl (O := itemOrd) _).symm
  | [], _ :: _, _, _, _ => (lex_nil_cons _ _).symm
  | _ :: _, [], _, _, _ => (lex_cons_nil _ _).symm
  | x :: xs, y :: ys, ss, e, e' => by
    obtain ⟨s, ss', e1, e3, e2, e4⟩ := confs_two e e'
    show (match keq d x y with
      | true => ltsQ (keq d) (ltP d) xs ys
      | false => ltP d x y) = PyProof.Rows.lexLt itemOrd (keyToksAll (toD h d x :: xs.map (toD h d))) (keyToksAll (toD h d y :: ys.map (toD h d)))
    rw [dataLt_cons (conf_alike d s x y e1 e3), conf_eq (h := h) d s x y e1 e3, confs_lt ih xs ys ss' e2 e4, ih s x y e1 e3]
    cases PyData.eqv (toD h d x) (toD h d y) <;> rfl
theorem conf_lt : ∀ (d : Nat) (s : Sg) (p q : PV), conf d s p = true → conf d s q = true → ltP d p q = dataLt (toD h d p) (toD h d q)
  | 0, _, _, _, e, _ => by cases e
  | d + 1, s, p, q, e, e' => by
    cases two_of e e' with
    | int i j =>
      show intLt i j = dataLt (.int i) (.int j)
      rw [dataLt_int, intLt_ok]
    | str x y =>
      show natsLt _ _ = dataLt (.str x) (.str y)
      rw [dataLt_str, natsLt_eq]
    | bl x y =>
      have e : dataLt (toD h (d + 1) (.bl x)) (toD h (d + 1) (.bl y)) = dataLt (.bool x) (.bool y) := rfl
      rw [e, dataLt_bool]
      cases x <;> cases y <;> first | rfl | (simp [ltP]; done) | decide
    | non => exact (lex_irrefl (O := itemOrd) _).symm
    | @tup xs ys ss q1 q2 =>
      show ltsQ (keq d) (ltP d) xs ys = dataLt (.tuple (xs.map (toD h d))) (.tuple (ys.map (toD h d)))
      rw [dataLt_tuple]
      exact confs_lt (conf_lt d) xs ys ss q1 q2
end
end Ev

set_option Elab.async false
set_option linter.all false
set_option maxRecDepth 100000
/-! Ev8: expressions and tests. -/
namespace Ev
open PySem PySem.Spec PyProof.Rows L2

section
variable {X : Cx} {cl : Nat → Addr} {fn : Nm} {pos : Pos}
theorem pe_varC {i : Nat} {x : Str} (hN : X.N[i]? = some x) (hv : Vis X.env.scope x) (hd : (x == ("__debug__" : Str)) = false) (hcd : (x == ("__classdict__" : Str)) = false) : PE X (.Name x pos) (cE X.K cl fn ⟨eVar i⟩) := by
  refine (pe_var hN hv hd hcd).of fun σ H Q ⟨m, env, h, e, r, k⟩ => ?_
  have k : OkE X.K cl fn (match eget env i with
    | some v => .ok v h
    | none => .no 130) m H Q := k
  cases z : eget env i with
  | none => rw [z] at k; exact k.elim
  | some p =>
    rw [z] at k
    obtain ⟨v, h1, h2⟩ := e.get z
    exact ⟨v, h1, k.give r h2⟩
/-- a value that always stands -/
theorem pe_litC {e : Expr} {v : V} {p : PV} (h : PE X e (tC v)) (hr : ∀ m H, VR X.K m H p v) : PE X e (cE X.K cl fn ⟨eLit p⟩) := by
  refine h.of fun σ H Q ⟨m, env, h, e, r, k⟩ => ?_
  have k : OkE X.K cl fn (.ok p h) m H Q := k
  exact k.give r (hr m H)
theorem evL_length : ∀ {fs : List Ee} {env : Env} {h : Hh} {vs : List PV} {h1 : Hh}, evL fs env h = .ok vs h1 → vs.length = fs.length
  | [], _, _, _, _, e => by cases e; rfl
  | f :: fs, env, h, vs, h1, e => by
    have e : (match f.run env h with
      | .ok v h1 => match evL fs env h1 with
        | .ok vs h2 => R.ok (v :: vs) h2
        | .no n => .no n
      | .no n => .no n) = .ok vs h1 := e
    cases z : f.run env h with
    | no n => rw [z] at e; cases e
    | ok v h2 =>
      rw [z] at e
      have e : (match evL fs env h2 with
        | .ok vs h2 => R.ok (v :: vs) h2
        | .no n => .no n) = .ok vs h1 := e
      cases z2 : evL fs env h2 with
      | no n => rw [z2] at e; cases e
      | ok ws h3 =>
        rw [z2] at e
        cases e
        exact congrArg Nat.succ (evL_length z2)
theorem pe_tupC {es : List Expr} {fs : List Ee} {x1 : Nat} (ha : PA X es (cL X.K cl fn fs)) (hl : fs.length ≤ 1000) : PE X (.Tuple es x1 pos) (cE X.K cl fn ⟨eTup fs⟩) := by
  refine (pe_tup ha).of fun σ H Q ⟨m, env, h, e, r, k⟩ => ?_
  have k : OkE X.K cl fn (match evL fs env h with
    | .ok vs h1 => .ok (.tup vs) h1
    | .no n => .no n) m H Q := k
  cases z : evL fs env h with
  | no n => rw [z] at k; exact k.elim
  | ok vs h1 =>
    rw [z] at k
    refine cL.bind e r (fun vs' h1' z' m1 H1 xs g r1 _ q => ?_) (fun n z' => by rw [z] at z'; cases z')
    rw [z] at z'; cases z'
    have k1 := k.mono g
    refine ⟨?_, fun p hp => k1.tup r1 q hp⟩
    rw [← q.length, evL_length z]
    exact Nat.le_trans hl (by rw [sizeLine_eq]; decide)
theorem pe_lstC {es : List Expr} {fs : List Ee} (ha : PA X es (cL X.K cl fn fs)) (hl : fs.length ≤ 1000) : PE X (.List es pos) (cE X.K cl fn ⟨eLst fs⟩) := by
  refine (pe_lst ha).of fun σ H Q ⟨m, env, h, e, r, k⟩ => ?_
  have k : OkE X.K cl fn (match evL fs env h with
    | .ok vs h1 => newOb (.lst vs) h1
    | .no n => .no n) m H Q := k
  cases z : evL fs env h with
  | no n => rw [z] at k; exact k.elim
  | ok vs h1 =>
    rw [z] at k
    refine cL.bind e r (fun vs' h1' z' m1 H1 xs g r1 _ q => ?_) (fun n z' => by rw [z] at z'; cases z')
    rw [z] at z'; cases z'
    have k1 := OkE.mono g k
    refine ⟨?_, fun p hp => k1.lst r1 q hp⟩
    rw [← q.length, evL_length z]
    exact Nat.le_trans hl (by rw [sizeLine_eq]; decide)
/-! arguments -/
theorem pa_nilC : PA X [] (cL X.K cl fn []) := by
  refine pa_nil.of fun σ H Q ⟨m, env, h, e, r, k⟩ => ?_
  have k : OkL X.K cl fn (.ok [] h) m H Q := k
  exact k m H [] (Grow.refl m H) r .nil
theorem star_no {e : Expr} {es : List Expr} {env : PySem.Env} (h : isStar e = false) : starEach (e :: es) env = (false, eval e env) :: starEach es env := by
  cases e <;> first | rfl | cases h
theorem pa_consC {e : Expr} {es : List Expr} {f : Ee} {fs : List Ee} (hs : isStar e = false) (he : PE X e (cE X.K cl fn f)) (ha : PA X es (cL X.K cl fn fs)) : PA X (e :: es) (cL X.K cl fn (f :: fs)) := by
  refine (pa_cons he ha (star_no hs)).of fun σ H Q ⟨m, env, h, e, r, k⟩ => ?_
  have k : OkL X.K cl fn (match f.run env h with
    | .ok v h1 => match evL fs env h1 with
      | .ok vs h2 => .ok (v :: vs) h2
      | .no n => .no n
    | .no n => .no n) m H Q := k
  cases z : f.run env h with
  | no n => rw [z] at k; exact k.elim
  | ok v h1 =>
    rw [z] at k
    have k : OkL X.K cl fn (match evL fs env h1 with
      | .ok vs h2 => .ok (v :: vs) h2
      | .no n => .no n) m H Q := k
    cases z2 : evL fs env h1 with
    | no n => rw [z2] at k; exact k.elim
    | ok vs h2 =>
      rw [z2] at k
      refine cE.bind e r (fun v' h1' z' m1 H1 x g r1 e1 q => ?_) (fun n z' => by rw [z] at z'; cases z')
      rw [z] at z'; cases z'
      refine cL.bind e1 r1 (fun vs' h2' z2' m2 H2 xs g2 r2 e2 q2 => ?_) (fun n z' => by rw [z2] at z'; cases z')
      rw [z2] at z2'; cases z2'
      exact k m2 H2 _ (g.trans g2) r2 (.cons (q.grow g2) q2)
/-- two parts, then by values -/
theorem two {f g : Ee} {b : PV → PV → Hh → R PV} {r2 : R2} (ov : OpV X.K cl fn b r2) {σ : L2.St} {H : Hp} {Q : VK} (w : cE X.K cl fn ⟨e2 b f g⟩ σ H Q) : tOp r2 (cE X.K cl fn f) (cE X.K cl fn g) σ H Q := by
  obtain ⟨m, env, h, e, r, k⟩ := w
  have k : OkE X.K cl fn (match f.run env h with
    | .ok v h1 => match g.run env h1 with
      | .ok w h2 => b v w h2
      | .no n => .no n
    | .no n => .no n) m H Q := k
  cases z : f.run env h with
  | no n => rw [z] at k; exact k.elim
  | ok v h1 =>
    rw [z] at k
    have k : OkE X.K cl fn (match g.run env h1 with
      | .ok w h2 => b v w h2
      | .no n => .no n) m H Q := k
    cases z2 : g.run env h1 with
    | no n => rw [z2] at k; exact k.elim
    | ok w h2 =>
      rw [z2] at k
      have k : OkE X.K cl fn (b v w h2) m H Q := k
      refine cE.bind e r (fun v' h1' z' m1 H1 x g1 r1 e1 q => ?_) (fun n z' => by rw [z] at z'; cases z')
      rw [z] at z'; cases z'
      refine cE.bind e1 r1 (fun v' h2' z2' m2 H2 y g2 r3 e2 q2 => ?_) (fun n z' => by rw [z2] at z'; cases z')
      rw [z2] at z2'; cases z2'
      exact ov m2 H2 _ _ _ _ _ _ r3 (q.grow g2) q2 (OkE.mono (g1.trans g2) k)
theorem pe_binC {a b : Expr} {op : Operator} {o : Bop} {f g : Ee} (ho : bopOf op = some o) (ha : PE X a (cE X.K cl fn f)) (hb : PE X b (cE X.K cl fn g)) : PE X (.BinOp a op b pos) (cE X.K cl fn ⟨e2 (bopV o) f g⟩) := by
  obtain ⟨r, h1, h2⟩ := bop_ok (X := X) (cl := cl) (fn := fn) ho
  exact (pe_op h1 ha hb).of fun σ H Q w => two h2 w
/-- comparisons -/
structure CopOk (X : Cx) (cl : Nat → Addr) (fn : Nm) (op : CmpOp) (o : Cop) : Prop where
  ex : ∃ r, OpR X (compareOp op) r ∧ OpV X.K cl fn (copV o) r
theorem pe_cmpC {a b : Expr} {op : CmpOp} {o : Cop} {f g : Ee} (ho : CopOk X cl fn op o) (hm : behindInMarks op b = false) (ha : PE X a (cE X.K cl fn f)) (hb : PE X b (cE X.K cl fn g)) :
    PE X (.Compare a [op] [b] pos) (cE X.K cl fn ⟨e2 (copV o) f g⟩) := by
  obtain ⟨r, h1, h2⟩ := ho.ex
  exact (pe_cmpR h1 ha hb hm).of fun σ H Q w => two h2 w
/-- its value is a bool -/
theorem copV_bl {o : Cop} {a b : PV} {h h1 : Hh} {v : PV} (e : copV o a b h = .ok v h1) : (∃ k, v = .bl k) ∧ h1 = h := by
  have hv : ∀ {q : Option Bool} {f : Bool → Bool} {n : Nat}, (match q with
    | some r => R.ok (PV.bl (f r)) h
    | none => .no n) = .ok v h1 → (∃ k, v = .bl k) ∧ h1 = h := fun {q f n} e => by
    cases q with
    | none => cases e
    | some r => cases e; exact ⟨⟨_, rfl⟩, rfl⟩
  cases o with
  | eq => exact hv (f := id) e
  | ne => exact hv (f := fun r => !r) e
  | lt => exact ltV_bl e
  | gt => exact ltV_bl e
  | le => exact ltV_bl e
  | ge => exact ltV_bl e
  | isN =>
    have e : isV false a b h = .ok v h1 := e
    cases b with
    | non => cases e; exact ⟨⟨_, rfl⟩, rfl⟩
    | _ => cases e
  | notN =>
    have e : isV true a b h = .ok v h1 := e
    cases b with
    | non => cases e; exact ⟨⟨_, rfl⟩, rfl⟩
    | _ => cases e
  | mem => exact memV_bl e
  | nmem => exact memV_bl e
where
  ltV_bl {neg : Bool} {a b : PV} {h h1 : Hh} {v : PV} (e : ltV neg a b h = .ok v h1) : (∃ k, v = .bl k) ∧ h1 = h := by
    unfold ltV at e
    split at e
    · split at e
      · cases e; exact ⟨⟨_, rfl⟩, rfl⟩
      · cases e
    · split at e
      · cases e; exact ⟨⟨_, rfl⟩, rfl⟩
      · cases e
    · cases e
  memV_bl {neg : Bool} {a b : PV} {h h1 : Hh} {v : PV} (e : memV neg a b h = .ok v h1) : (∃ k, v = .bl k) ∧ h1 = h := by
    have hv : ∀ {q : Option Bool} {f : Bool → Bool} {n : Nat}, (match q with
      | some r => R.ok (PV.bl (f r)) h
      | none => .no n) = .ok v h1 → (∃ k, v = .bl k) ∧ h1 = h := fun {q f n} e => by
      cases q with
      | none => cases e
      | some r => cases e; exact ⟨⟨_, rfl⟩, rfl⟩
    unfold memV at e
    split at e
    · exact hv (f := fun r => xor neg r) e
    · split at e
      · exact hv (f := fun r => xor neg r) e
      · split at e
        · split at e
          · split at e
            · split at e <;> cases e <;> exact ⟨⟨_, rfl⟩, rfl⟩
            · cases e
          · cases e
        · cases e
theorem pt_cmpC {a b : Expr} {op : CmpOp} {o : Cop} {f g : Ee} (ho : CopOk X cl fn op o) (hm : behindInMarks op b = false) (ha : PE X a (cE X.K cl fn f)) (hb : PE X b (cE X.K cl fn g)) :
    PT X (.Compare a [op] [b] pos) (cT X.K cl fn ⟨tVal ⟨e2 (copV o) f g⟩⟩) := by
  obtain ⟨r, h1, h2⟩ := ho.ex
  refine (pt_cmpR h1 ha hb hm).of fun σ H Q ⟨m, env, h, e, rr, k⟩ => ?_
  refine two h2 ⟨m, env, h, e, rr, ?_⟩
  have k : OkT X.K cl fn (match e2 (copV o) f g env h with
    | .ok v h1 => truth v h1
    | .no n => .no n) m H Q := k
  show OkE X.K cl fn (e2 (copV o) f g env h) m H _
  cases z : e2 (copV o) f g env h with
  | no n => rw [z] at k; exact k.elim
  | ok v h1 =>
    rw [z] at k
    have z : (match f.run env h with
      | .ok v h1 => match g.run env h1 with
        | .ok w h2 => copV o v w h2
        | .no n => .no n
      | .no n => .no n) = .ok v h1 := z
    cases z1 : f.run env h with
    | no n => rw [z1] at z; cases z
    | ok v1 h2 =>
      rw [z1] at z
      have z : (match g.run env h2 with
        | .ok w h2 => copV o v1 w h2
        | .no n => .no n) = .ok v h1 := z
      cases z2 : g.run env h2 with
      | no n => rw [z2] at z; cases z
      | ok v2 h3 =>
        rw [z2] at z
        obtain ⟨⟨c, rfl⟩, rfl⟩ := copV_bl z
        have k : OkT X.K cl fn (.ok c h1) m H Q := k
        exact fun m' H' x g' r' q => by cases q; exact ⟨c, rfl, k m' H' g' r'⟩
/-! truth -/
theorem truth_ok {K : PySem.W.Frag} {m : List Addr} {H : Hp} {h : Hh} {v : PV} {x : V} {Q : Bool → Hp → Prop} (r : HR K cl fn m H h) (q : VR K m H v x) (k : OkT K cl fn (truth v h) m H Q) :
    ∃ c, TruV K x H c ∧ Q c H := by
  have give : ∀ c, OkT K cl fn (.ok c h) m H Q → Q c H := fun c k => k m H (Grow.refl m H) r
  have emp : ∀ {ps : List PV} {vs : List V}, VRs K m H ps vs → (!nil? ps) = !vs.isEmpty := fun {ps vs} s => by cases s <;> rfl
  cases v with
  | non => cases q; exact ⟨false, rfl, give _ k⟩
  | bl b => cases q; exact ⟨b, rfl, give _ k⟩
  | int i =>
    cases q
    refine ⟨!isZ i, ?_, give _ k⟩
    show (!isZ i) = (i != 0)
    cases i with
    | ofNat n =>
      cases n with
      | zero => rfl
      | succ n =>
        show true = !((Int.ofNat (n + 1)) == 0)
        have : ¬ (Int.ofNat (n + 1)) = 0 := by simp; omega
        rw [beq_eq_false_iff_ne.mpr this]; rfl
    | negSucc n => rfl
  | str s =>
    cases q
    have k : OkT K cl fn (match sizeOk s.cps.size with
      | true => .ok (!nil? s.cps.toList) h
      | false => .no 29) m H Q := k
    cases z : sizeOk s.cps.size with
    | false => rw [z] at k; exact k.elim
    | true =>
    rw [z] at k
    refine ⟨!nil? s.cps.toList, ⟨sizeOk_le z, ?_⟩, give _ k⟩
    show (!nil? s.cps.toList) = ((s.length : Int) != 0)
    have : s.length = s.cps.toList.length := rfl
    rw [this]
    cases s.cps.toList with
    | nil => rfl
    | cons a l =>
      have : ¬ ((((a :: l).length : Nat) : Int) = 0) := by simp; omega
      show true = !((((a :: l).length : Nat) : Int) == 0)
      rw [beq_eq_false_iff_ne.mpr this]; rfl
  | tup ps =>
    obtain ⟨a, vs, rfl, h1, h2⟩ := q.tup_inv
    exact ⟨!nil? ps, .inr (.inl ⟨vs, h1, emp h2⟩), give _ k⟩
  | fro ps =>
    obtain ⟨a, vs, rfl, h1, h2⟩ := q.fro_inv
    exact ⟨!nil? ps, .inl ⟨vs, h1.sql, emp h2⟩, give _ k⟩
  | ref n =>
    have k : OkT K cl fn (match lsOf h (.ref n) with
      | some xs => .ok (!nil? xs) h
      | none => .no 30) m H Q := k
    cases z : lsOf h (.ref n) with
    | some xs =>
      rw [z] at k
      obtain ⟨a, vs, rfl, h1, h2⟩ := lsOf_sql r q z
      exact ⟨!nil? xs, .inl ⟨vs, h1, emp h2⟩, give _ k⟩
    | none => rw [z] at k; exact k.elim
/-- is a test its value's truth -/
def plainTest : Expr → Bool
  | .BoolOp .. => false
  | .UnaryOp .Not _ _ => false
  | .IfExp .. => false
  | .Compare .. => false
  | _ => true
theorem plainTest_ok {e : Expr} {env : PySem.Env} (h : plainTest e = true) (whole : Sem Value) : isTrue e env whole = (do let v ← whole; standAt e.pos; holding [v] (truthy v)) := by
  cases e <;> first | (cases h; done) | rfl | skip
  rename_i op a p
  cases op <;> first | (cases h; done) | rfl
end
end Ev

set_option Elab.async false
set_option linter.all false
set_option maxRecDepth 100000
/-! Ev9: more expressions and tests. -/
namespace Ev
open PySem PySem.Spec PyProof.Rows L2

section
variable {X : Cx} {cl : Nat → Addr} {fn : Nm} {pos : Pos}
/-! ### tests -/
theorem pt_truthC {e : Expr} {f : Ee} (hp : plainTest e = true) (he : PE X e (cE X.K cl fn f)) : PT X e (cT X.K cl fn ⟨tVal f⟩) := by
  refine (pt_truth he (plainTest_ok hp)).of fun σ H Q ⟨m, env, h, e, r, k⟩ => ?_
  have k : OkT X.K cl fn (match f.run env h with
    | .ok v h1 => truth v h1
    | .no n => .no n) m H Q := k
  cases z : f.run env h with
  | no n => rw [z] at k; exact k.elim
  | ok v h1 =>
    rw [z] at k
    refine cE.bind e r (fun v' h1' z' m1 H1 x g r1 _ q => ?_) (fun n z' => by rw [z] at z'; cases z')
    rw [z] at z'; cases z'
    exact truth_ok r1 q (OkT.mono g k)
theorem pt_notC {a : Expr} {f : Et} (ha : PT X a (cT X.K cl fn f)) : PT X (.UnaryOp .Not a pos) (cT X.K cl fn ⟨tNot f⟩) := by
  refine (pt_not ha).of fun σ H Q ⟨m, env, h, e, r, k⟩ => ?_
  have k : OkT X.K cl fn (match f.run env h with
    | .ok b h1 => .ok (!b) h1
    | .no n => .no n) m H Q := k
  cases z : f.run env h with
  | no n => rw [z] at k; exact k.elim
  | ok b h1 =>
    rw [z] at k
    refine cT.bind e r (fun v' h1' z' m1 H1 g r1 _ => ?_) (fun n z' => by rw [z] at z'; cases z')
    rw [z] at z'; cases z'
    exact k m1 H1 g r1
theorem PW.of {X : Cx} {e : Expr} {t t' : TT} (h : PW X e t) (w : ∀ σ H Q, t' σ H Q → t σ H Q) : PW X e t' := ⟨fun wh pins s σ H Q I q => h.run wh pins s σ H Q I (w σ H Q q)⟩
theorem pw_andC {a b : Expr} {rest : List Expr} {f g : Et} (ha : PT X a (cT X.K cl fn f)) (hb : PW X (.BoolOp .And (b :: rest) pos) (cT X.K cl fn g)) : PW X (.BoolOp .And (a :: b :: rest) pos) (cT X.K cl fn ⟨tAnd f g⟩) := by
  refine PW.of (pw_and ha hb) fun σ H Q ⟨m, env, h, e, r, k⟩ => ?_
  have k : OkT X.K cl fn (match f.run env h with
    | .ok k h1 => match k with
      | true => g.run env h1
      | false => .ok false h1
    | .no n => .no n) m H Q := k
  cases z : f.run env h with
  | no n => rw [z] at k; exact k.elim
  | ok b h1 =>
    rw [z] at k
    refine cT.bind e r (fun v' h1' z' m1 H1 g1 r1 e1 => ?_) (fun n z' => by rw [z] at z'; cases z')
    rw [z] at z'; cases z'
    cases b with
    | true => rw [if_pos rfl]; exact ⟨m1, env, h1, e1, r1, OkT.mono g1 k⟩
    | false => rw [if_neg (by simp)]; exact k m1 H1 g1 r1
theorem pw_orC {a b : Expr} {rest : List Expr} {f g : Et} (ha : PT X a (cT X.K cl fn f)) (hb : PW X (.BoolOp .Or (b :: rest) pos) (cT X.K cl fn g)) : PW X (.BoolOp .Or (a :: b :: rest) pos) (cT X.K cl fn ⟨tOr f g⟩) := by
  refine PW.of (pw_or ha hb) fun σ H Q ⟨m, env, h, e, r, k⟩ => ?_
  have k : OkT X.K cl fn (match f.run env h with
    | .ok k h1 => match k with
      | false => g.run env h1
      | true => .ok true h1
    | .no n => .no n) m H Q := k
  cases z : f.run env h with
  | no n => rw [z] at k; exact k.elim
  | ok b h1 =>
    rw [z] at k
    refine cT.bind e r (fun v' h1' z' m1 H1 g1 r1 e1 => ?_) (fun n z' => by rw [z] at z'; cases z')
    rw [z] at z'; cases z'
    cases b with
    | false => rw [if_neg (by simp)]; exact ⟨m1, env, h1, e1, r1, OkT.mono g1 k⟩
    | true => rw [if_pos rfl]; exact k m1 H1 g1 r1
/-- no tests, or some: those of a comprehension -/
theorem pts_nilC {Xb : Cx} : PTs Xb [] (cTs Xb.K cl fn []) := by
  refine ⟨fun pins s σ H Q I ⟨m, env, h, e, r, k⟩ => ?_⟩
  have k : OkT Xb.K cl fn (.ok true h) m H Q := k
  exact pts_nil.run pins s σ H Q I (k m H (Grow.refl m H) r)
/-! ### values -/
theorem pe_andC {a b : Expr} {rest : List Expr} {f g : Ee} (ha : PE X a (cE X.K cl fn f)) (hb : PE X (.BoolOp .And (b :: rest) pos) (cE X.K cl fn g)) : PE X (.BoolOp .And (a :: b :: rest) pos) (cE X.K cl fn ⟨eAnd f g⟩) := by
  refine (pe_and ha hb).of fun σ H Q ⟨m, env, h, e, r, k⟩ => ?_
  have k : OkE X.K cl fn (match f.run env h with
    | .ok v h1 => match v with
      | .bl c => match c with
        | true => g.run env h1
        | false => .ok (.bl false) h1
      | _ => .no 135
    | .no n => .no n) m H Q := k
  cases z : f.run env h with
  | no n => rw [z] at k; exact k.elim
  | ok v h1 =>
    rw [z] at k
    cases v with
    | bl c =>
      refine cE.bind e r (fun v' h1' z' m1 H1 x g1 r1 e1 q => ?_) (fun n z' => by rw [z] at z'; cases z')
      rw [z] at z'; cases z'
      cases q
      refine ⟨c, rfl, ?_⟩
      cases c with
      | true => rw [if_pos rfl]; exact ⟨m1, env, h1, e1, r1, OkE.mono g1 k⟩
      | false => rw [if_neg (by simp)]; exact (OkE.mono g1 (show OkE X.K cl fn (.ok (.bl false) h1) m H Q from k)).give r1 (.bl _)
    | _ => exact k.elim
theorem pe_orC {a b : Expr} {rest : List Expr} {f g : Ee} (ha : PE X a (cE X.K cl fn f)) (hb : PE X (.BoolOp .Or (b :: rest) pos) (cE X.K cl fn g)) : PE X (.BoolOp .Or (a :: b :: rest) pos) (cE X.K cl fn ⟨eOr f g⟩) := by
  refine (pe_or ha hb).of fun σ H Q ⟨m, env, h, e, r, k⟩ => ?_
  have k : OkE X.K cl fn (match f.run env h with
    | .ok v h1 => match v with
      | .bl c => match c with
        | false => g.run env h1
        | true => .ok (.bl true) h1
      | _ => .no 136
    | .no n => .no n) m H Q := k
  cases z : f.run env h with
  | no n => rw [z] at k; exact k.elim
  | ok v h1 =>
    rw [z] at k
    cases v with
    | bl c =>
      refine cE.bind e r (fun v' h1' z' m1 H1 x g1 r1 e1 q => ?_) (fun n z' => by rw [z] at z'; cases z')
      rw [z] at z'; cases z'
      cases q
      refine ⟨c, rfl, ?_⟩
      cases c with
      | false => rw [if_neg (by simp)]; exact ⟨m1, env, h1, e1, r1, OkE.mono g1 k⟩
      | true => rw [if_pos rfl]; exact (OkE.mono g1 (show OkE X.K cl fn (.ok (.bl true) h1) m H Q from k)).give r1 (.bl _)
    | _ => exact k.elim
/-- one part, then by values -/
def UnV (K : PySem.W.Frag) (cl : Nat → Addr) (fn : Nm) (g : PV → Hh → R PV) (r : V → Hp → VK → Prop) : Prop :=
  ∀ m H h p x Q, HR K cl fn m H h → VR K m H p x → OkE K cl fn (g p h) m H Q → r x H Q
theorem one {f : Ee} {b : PV → Hh → R PV} {r1 : V → Hp → VK → Prop} (ov : UnV X.K cl fn b r1) {σ : L2.St} {H : Hp} {Q : VK} (w : cE X.K cl fn ⟨e1 b f⟩ σ H Q) : cE X.K cl fn f σ H fun x H1 => r1 x H1 Q := by
  obtain ⟨m, env, h, e, r, k⟩ := w
  have k : OkE X.K cl fn (match f.run env h with
    | .ok v h1 => b v h1
    | .no n => .no n) m H Q := k
  cases z : f.run env h with
  | no n => rw [z] at k; exact k.elim
  | ok v h1 =>
    rw [z] at k
    refine cE.bind e r (fun v' h1' z' m1 H1 x g1 r1 e1 q => ?_) (fun n z' => by rw [z] at z'; cases z')
    rw [z] at z'; cases z'
    exact ov m1 H1 _ _ _ _ r1 q (OkE.mono g1 k)
theorem pe_notC {a : Expr} {f : Ee} (ha : PE X a (cE X.K cl fn f)) : PE X (.UnaryOp .Not a pos) (cE X.K cl fn ⟨e1 notV f⟩) := by
  refine (pe_not ha).of fun σ H Q w => one (r1 := fun x H1 Q => ∃ c, x = .bl c ∧ Q (.bl (!c)) H1) (fun m H h p x Q r q k => ?_) w
  cases p with
  | bl b => cases q; exact ⟨b, rfl, (show OkE X.K cl fn (.ok (.bl (!b)) h) m H Q from k).give r (.bl _)⟩
  | _ => exact (show False from k).elim
theorem pe_negC {a : Expr} {f : Ee} (ha : PE X a (cE X.K cl fn f)) : PE X (.UnaryOp .USub a pos) (cE X.K cl fn ⟨e1 negV f⟩) := by
  refine (pe_un un_neg ha).of fun σ H Q w => one (r1 := rU fun i => .int (-i)) (fun m H h p x Q r q k => ?_) w
  cases p with
  | int i => cases q; exact ⟨i, rfl, (show OkE X.K cl fn (.ok (.int (-i)) h) m H Q from k).give r (.int _)⟩
  | _ => exact (show False from k).elim
theorem pe_iteC {t a b : Expr} {ft : Et} {f g : Ee} (ht : PT X t (cT X.K cl fn ft)) (ha : PE X a (cE X.K cl fn f)) (hb : PE X b (cE X.K cl fn g)) : PE X (.IfExp t a b pos) (cE X.K cl fn ⟨eIte ft f g⟩) := by
  refine (pe_ifExp ht ha hb).of fun σ H Q ⟨m, env, h, e, r, k⟩ => ?_
  have k : OkE X.K cl fn (match ft.run env h with
    | .ok k h1 => match k with
      | true => f.run env h1
      | false => g.run env h1
    | .no n => .no n) m H Q := k
  cases z : ft.run env h with
  | no n => rw [z] at k; exact k.elim
  | ok c h1 =>
    rw [z] at k
    refine cT.bind e r (fun v' h1' z' m1 H1 g1 r1 e1 => ?_) (fun n z' => by rw [z] at z'; cases z')
    rw [z] at z'; cases z'
    cases c with
    | true => rw [if_pos rfl]; exact ⟨m1, env, h1, e1, r1, OkE.mono g1 k⟩
    | false => rw [if_neg (by simp)]; exact ⟨m1, env, h1, e1, r1, OkE.mono g1 k⟩
/-! subscripts -/
theorem idx_ok {n : Nat} {i : Int} {j : Nat} (e : idx n i = some j) : ixN n i = some j := by
  cases i with
  | ofNat k =>
    have e : (match Nat.blt k n with
      | true => some k
      | false => none) = some j := e
    cases z : Nat.blt k n with
    | false => rw [z] at e; cases e
    | true =>
      rw [z] at e
      have e' : k = j := Option.some.inj e
      subst e'
      have h1 : k + 1 ≤ n := Nat.le_of_ble_eq_true z
      unfold ixN
      rw [if_pos (show (0 : Int) ≤ Int.ofNat k from Int.natCast_nonneg k), if_pos (show (Int.ofNat k) < (n : Int) by simp only [Int.ofNat_eq_natCast]; omega)]
      rfl
  | negSucc k =>
    have e : (match Nat.blt k n with
      | true => some (n - (k + 1))
      | false => none) = some j := e
    cases z : Nat.blt k n with
    | false => rw [z] at e; cases e
    | true =>
      rw [z] at e
      have e' : n - (k + 1) = j := Option.some.inj e
      subst e'
      have h1 : k + 1 ≤ n := Nat.le_of_ble_eq_true z
      unfold ixN
      rw [if_neg (by omega), if_pos (by omega)]
      congr 1
      omega
theorem listAt_get {α : Type} : ∀ (l : List α) (i : Nat), listAt l i = l[i]?
  | [], i => by cases i <;> rfl
  | a :: l, 0 => rfl
  | a :: l, i + 1 => by
    show listAt l i = _
    rw [listAt_get l i]
    simp
theorem atL_ok {K : PySem.W.Frag} {m : List Addr} {H : Hp} {h : Hh} {ps : List PV} {vs : List V} {i : Int} {Q : VK} (r : HR K cl fn m H h) (s : VRs K m H ps vs) (k : OkE K cl fn (atL ps i h) m H Q) : ∃ v, atI vs i = some v ∧ Q v H := by
  unfold atL at k
  cases z : idx ps.length i with
  | none => rw [z] at k; exact k.elim
  | some n =>
    rw [z] at k
    have k : OkE K cl fn (match listAt ps n with
      | some v => .ok v h
      | none => .no 31) m H Q := k
    cases z2 : listAt ps n with
    | none => rw [z2] at k; exact k.elim
    | some p =>
      rw [z2] at k
      obtain ⟨v, h1, h2⟩ := s.at z2
      refine ⟨v, ?_, k.give r h2⟩
      unfold atI
      rw [← s.length, idx_ok z]
      exact h1
/-- o[i]: of lists, tuples, texts, dicts -/
def rIxA (K : PySem.W.Frag) (w : World) : R2 := fun x y H Q => rIx K x y H Q ∨ ∃ a v, x = .ref a ∧ DG K w H a y (some v) ∧ Q v H
theorem ix_dict (hu : X.A.units + 64 < cLine) : IxR X (fun x y H Q => ∃ a v, x = .ref a ∧ DG X.K X.w H a y (some v) ∧ Q v H) := by
  intro value slice pins s σ H x y v u Q I rx ry h hs
  obtain ⟨a, z, rfl, g, q⟩ := h
  obtain rfl : v = Value.ref a := rx
  obtain ⟨hT, _⟩ := g.typeIs I
  unfold subscriptTail
  refine wpAny_bind ?_
  rw [getitemInPython_of_ne hT.not_modules]
  refine wpAny_bind (wpAny_specialOf hT PySem.F.slot_dict_getitem.lookup ?_)
  have fin : wpAny (model X.prog X.w) X.A (subscripted slice false (.ref a) u) (fun r s₃ => wpAny (model X.prog X.w) X.A (letTemporaryGo value (.ref a) r >>= fun _ => pure r) (EP X pins σ Q) X.xe s₃) X.xe s := by
    rw [hs]
    refine wpAny_operating (g_getItem hu I g ry fun w' s' I' rw' => ?_)
    exact wpAny_bind (wpAny_letTemporaryGo (wpAny_pure ⟨z, H, I', rw', q⟩))
  first
    | exact wpAny_pure (wpAny_bind fin)
    | exact wpAny_bind (wpAny_pure (wpAny_bind fin))
    | exact wpAny_bind fin
theorem ov_ix {K : PySem.W.Frag} : OpV K cl fn ixV (rIxA K fn.w) := by
  intro m H h p q x y Q r vp vq k
  have lst : ∀ {ps : List PV}, lsOf h p = some ps → (OkE K cl fn (match (generalizing := false) q with
      | .int i => atL ps i h
      | _ => .no 33) m H Q) → rIxA K fn.w x y H Q := fun {ps} z k => by
    obtain ⟨a, vs, rfl, h1, h2⟩ := lsOf_sql r vp z
    cases q with
    | int i =>
      cases vq
      obtain ⟨v, e1, e2⟩ := atL_ok r h2 k
      exact .inl (.inl ⟨a, vs, i, v, rfl, rfl, h1, e1, e2⟩)
    | _ => exact k.elim
  cases p with
  | tup ps =>
    obtain ⟨a, vs, rfl, h1, h2⟩ := vp.tup_inv
    cases q with
    | int i =>
      cases vq
      obtain ⟨v, e1, e2⟩ := atL_ok r h2 k
      exact .inl (.inr (.inl ⟨a, vs, i, v, rfl, rfl, h1, e1, e2⟩))
    | _ => exact (show False from k).elim
  | str s =>
    cases vp
    cases q with
    | int i =>
      cases vq
      have k : OkE K cl fn (match sizeOk s.cps.size, idx s.cps.toList.length i with
        | true, some n => match listAt s.cps.toList n with
          | some c => .ok (.str ⟨#[c]⟩) h
          | none => .no 32
        | _, _ => .no 32) m H Q := k
      cases z : sizeOk s.cps.size with
      | false => rw [z] at k; exact k.elim
      | true =>
        cases z2 : idx s.cps.toList.length i with
        | none => rw [z, z2] at k; exact k.elim
        | some n =>
          rw [z, z2] at k
          have k : OkE K cl fn (match listAt s.cps.toList n with
            | some c => .ok (.str ⟨#[c]⟩) h
            | none => .no 32) m H Q := k
          cases z3 : listAt s.cps.toList n with
          | none => rw [z3] at k; exact k.elim
          | some c =>
            rw [z3] at k
            rw [listAt_get] at z3
            refine .inl (.inr (.inr ⟨s, i, c, rfl, rfl, sizeOk_le z, ?_, k.give r (.str _)⟩))
            unfold atI
            rw [idx_ok z2]
            exact z3
    | _ => exact (show False from k).elim
  | fro ps => exact lst rfl k
  | ref n =>
    have k : OkE K cl fn (match lsOf h (.ref n) with
      | some xs => match (generalizing := false) q with
        | .int i => atL xs i h
        | _ => .no 33
      | none => match ddOf h n with
        | some d => match d.kOk q with
          | true => match d.look q with
            | some v => .ok v h
            | none => .no 34
          | false => .no 35
        | none => .no 36) m H Q := k
    cases z : lsOf h (.ref n) with
    | some ps => rw [z] at k; exact lst z k
    | none =>
      rw [z] at k
      have k : OkE K cl fn (match ddOf h n with
        | some d => match d.kOk q with
          | true => match d.look q with
            | some v => .ok v h
            | none => .no 34
          | false => .no 35
        | none => .no 36) m H Q := k
      cases z2 : ddOf h n with
      | none => rw [z2] at k; exact k.elim
      | some d =>
        rw [z2] at k
        have k : OkE K cl fn (match d.kOk q with
          | true => match d.look q with
            | some v => .ok v h
            | none => .no 34
          | false => .no 35) m H Q := k
        cases z3 : d.kOk q with
        | false => rw [z3] at k; exact k.elim
        | true =>
          rw [z3] at k
          have k : OkE K cl fn (match d.look q with
            | some v => .ok v h
            | none => .no 34) m H Q := k
          obtain ⟨a, rfl, ha⟩ := vp.ref_inv
          obtain ⟨o, g, lk⟩ := r.dg z2 ha z3 vq
          cases z4 : d.look q with
          | none => rw [z4] at k; exact k.elim
          | some v =>
            rw [z4] at k lk
            obtain ⟨v', rfl, vv⟩ := lk
            exact .inr ⟨a, v', rfl, g, k.give r vv⟩
  | _ => exact (show False from k).elim
theorem plainIx_ok {b : Expr} (h : isSlice b = false) : PlainIx b := by
  intro o i
  cases b <;> first | rfl | cases h
theorem pe_ixC {a b : Expr} {f g : Ee} (hw : fn.w = X.w) (hu : X.A.units + 64 < cLine) (hs : isSlice b = false) (ha : PE X a (cE X.K cl fn f)) (hb : PE X b (cE X.K cl fn g)) : PE X (.Subscript a b pos) (cE X.K cl fn ⟨e2 ixV f g⟩) :=
  (pe_ix (IxR.or ix_seq (ix_dict hu)) ha hb (plainIx_ok hs)).of fun σ H Q w => by rw [← hw]; exact two ov_ix w
/-! slices -/
theorem cutIx_ok (n d : Nat) (o : Option Int) : cutIx n d o = HT.sIx n d o := by
  cases o with
  | none => rfl
  | some i =>
    cases i with
    | ofNat k =>
      show Nat.min k n = if (Int.ofNat k) < 0 then (Int.ofNat k + (n : Int)).toNat else min (Int.ofNat k).toNat n
      rw [if_neg (by simp only [Int.ofNat_eq_natCast]; omega)]
      rfl
    | negSucc k =>
      show n - (k + 1) = if (Int.negSucc k) < 0 then ((Int.negSucc k) + (n : Int)).toNat else min (Int.negSucc k).toNat n
      rw [if_pos (by omega)]
      omega
theorem cut_ok {K : PySem.W.Frag} {m : List Addr} {H : Hp} {ps : List PV} {vs : List V} (s : VRs K m H ps vs) (lo hi : Option Int) : VRs K m H (cut ps lo hi) (cutV vs lo hi) := by
  unfold cut cutV
  rw [cutIx_ok, cutIx_ok, s.length]
  exact (s.drop _).take _
abbrev rSlAll (K : PySem.W.Frag) : V → Option Int → Option Int → Hp → VK → Prop := fun x lo hi H Q => rSlA K x lo hi H Q ∨ rSlL K x lo hi H Q ∨ rSlS x lo hi H Q
theorem sl_all : SlR X (rSlAll X.K) := sl_tupA.or (sl_list.or sl_str)
theorem sl_ok {K : PySem.W.Frag} {m : List Addr} {H : Hp} {h : Hh} {p : PV} {x : V} {lo hi : Option Int} {Q : VK} (r : HR K cl fn m H h) (q : VR K m H p x) (k : OkE K cl fn (slV p lo hi h) m H Q) : rSlAll K x lo hi H Q := by
  have lst : ∀ {p : PV}, VR K m H p x → OkE K cl fn (match lsOf h p with
      | some xs => newOb (.lst (cut xs lo hi)) h
      | none => .no 38) m H Q → rSlAll K x lo hi H Q := fun {p} q k => by
    cases z : lsOf h p with
    | none => rw [z] at k; exact k.elim
    | some ps =>
      rw [z] at k
      obtain ⟨a, vs, rfl, h1, h2⟩ := lsOf_sql r q z
      exact .inr (.inl ⟨a, vs, rfl, h1, fun p hp => OkE.lst k r (cut_ok h2 lo hi) hp⟩)
  cases p with
  | tup ps =>
    obtain ⟨a, vs, rfl, h1, h2⟩ := q.tup_inv
    have k : OkE K cl fn (.ok (.tup (cut ps lo hi)) h) m H Q := k
    refine .inl ⟨a, vs, rfl, h1, fun ⟨w1, w2⟩ => ?_, fun _ p hp => k.tup r (cut_ok h2 lo hi) hp⟩
    have e : cut ps lo hi = ps := by
      unfold cut
      rw [cutIx_ok, cutIx_ok, h2.length, w1, w2, List.drop_zero, Nat.sub_zero, ← h2.length, List.take_length]
    rw [e] at k
    exact k.give r (.tup h1 h2)
  | str s =>
    cases q
    have k : OkE K cl fn (match sizeOk s.cps.size with
      | true => .ok (.str ⟨((s.cps.toList.drop (cutIx s.cps.size 0 lo)).take (cutIx s.cps.size s.cps.size hi - cutIx s.cps.size 0 lo)).toArray⟩) h
      | false => .no 38) m H Q := k
    cases z : sizeOk s.cps.size with
    | false => rw [z] at k; exact k.elim
    | true =>
      rw [z, cutIx_ok, cutIx_ok] at k
      exact .inr (.inr ⟨s, rfl, sizeOk_le z, OkE.give k r (.str _)⟩)
  | fro ps => exact lst q k
  | ref n => exact lst q k
  | _ => exact (show False from k).elim
def cO (K : PySem.W.Frag) (cl : Nat → Addr) (fn : Nm) (f : Option Ee) : TO := fun σ H Q => ∃ m env h, EnvR K m H env σ ∧ HR K cl fn m H h ∧ (match f with
  | none => ∀ m' H', Grow m H m' H' → HR K cl fn m' H' h → Q none H'
  | some f => match f.run env h with
    | .ok (.int i) h1 => ∀ m' H', Grow m H m' H' → HR K cl fn m' H' h1 → Q (some i) H'
    | _ => False)
theorem _root_.L2.PO.of {X : Cx} {e : Option Expr} {t t' : TO} (h : PO X e t) (w : ∀ σ H Q, t' σ H Q → t σ H Q) : PO X e t' := ⟨fun pins s σ H Q I q => h.run pins s σ H Q I (w σ H Q q)⟩
theorem po_noneC : PO X none (cO X.K cl fn none) := by
  refine po_none.of fun σ H Q ⟨m, env, h, e, r, k⟩ => ?_
  exact k m H (Grow.refl m H) r
theorem po_someC {e : Expr} {f : Ee} (he : PE X e (cE X.K cl fn f)) : PO X (some e) (cO X.K cl fn (some f)) := by
  refine (po_some he).of fun σ H Q ⟨m, env, h, e, r, k⟩ => ?_
  have k : (match f.run env h with
    | .ok (.int i) h1 => ∀ m' H', Grow m H m' H' → HR X.K cl fn m' H' h1 → Q (some i) H'
    | _ => False) := k
  cases z : f.run env h with
  | no n => rw [z] at k; exact k.elim
  | ok v h1 =>
    rw [z] at k
    cases v with
    | int i =>
      refine cE.bind e r (fun v' h1' z' m1 H1 x g r1 _ q => ?_) (fun n z' => by rw [z] at z'; cases z')
      rw [z] at z'; cases z'
      cases q
      exact ⟨i, rfl, k m1 H1 g r1⟩
    | _ => exact k.elim
theorem evO_ok {f : Option Ee} {env : Env} {h : Hh} {kk : Option Int → Hh → R PV} {m : List Addr} {H : Hp} {Q : VK} {σ : L2.St} (e : EnvR X.K m H env σ) (r : HR X.K cl fn m H h) (k : OkE X.K cl fn (evO f env h kk) m H Q)
    {R : Option Int → Hp → Prop} (fin : ∀ o h1 m1 H1, Grow m H m1 H1 → HR X.K cl fn m1 H1 h1 → EnvR X.K m1 H1 env σ → OkE X.K cl fn (kk o h1) m1 H1 Q → R o H1) : cO X.K cl fn f σ H R := by
  refine ⟨m, env, h, e, r, ?_⟩
  cases f with
  | none => exact fun m1 H1 g r1 => fin none h m1 H1 g r1 (e.grow g) (OkE.mono g k)
  | some f =>
    have k : OkE X.K cl fn (match f.run env h with
      | .ok v h1 => match v with
        | .int i => kk (some i) h1
        | _ => .no 100
      | .no n => .no n) m H Q := k
    show (match f.run env h with
      | .ok (.int i) h1 => ∀ m' H', Grow m H m' H' → HR X.K cl fn m' H' h1 → R (some i) H'
      | _ => False)
    cases z : f.run env h with
    | no n => rw [z] at k; exact k.elim
    | ok v h1 =>
      rw [z] at k
      cases v with
      | int i => exact fun m1 H1 g r1 => fin (some i) h1 m1 H1 g r1 (e.grow g) (OkE.mono g k)
      | _ => exact (show False from k).elim
theorem pe_slC {a : Expr} {lo hi : Option Expr} {f : Ee} {fl fh : Option Ee} {p2 : Pos} (ha : PE X a (cE X.K cl fn f)) (hl : PO X lo (cO X.K cl fn fl)) (hh : PO X hi (cO X.K cl fn fh)) : PE X (.Subscript a (.Slice lo hi none p2) pos) (cE X.K cl fn ⟨eSl f fl fh⟩) := by
  refine (pe_slice sl_all ha hl hh).of fun σ H Q ⟨m, env, h, e, r, k⟩ => ?_
  have k : OkE X.K cl fn (match f.run env h with
    | .ok v h1 => evO fl env h1 fun l h2 => evO fh env h2 fun u h3 => slV v l u h3
    | .no n => .no n) m H Q := k
  cases z : f.run env h with
  | no n => rw [z] at k; exact k.elim
  | ok v h1 =>
    rw [z] at k
    refine cE.bind e r (fun v' h1' z' m1 H1 x g r1 e1 q => ?_) (fun n z' => by rw [z] at z'; cases z')
    rw [z] at z'; cases z'
    refine evO_ok e1 r1 (OkE.mono g k) fun l h2 m2 H2 g2 r2 e2 k2 => ?_
    refine evO_ok e2 r2 k2 fun u h3 m3 H3 g3 r3 e3 k3 => ?_
    exact sl_ok r3 (q.grow (g2.trans g3)) k3
end
end Ev

set_option Elab.async false
set_option linter.all false
set_option maxRecDepth 100000
/-! Ev10: what is walked, loops, comprehensions. -/
namespace Ev
open PySem PySem.Spec PyProof.Rows L2

theorem rem_walk {α : Type} (w : Wi) (g : PV → α → Hh → R (Lp α)) (a : α) (h : Hh) : walk w g a h = rem w g w.size 0 a h := by
  cases w with
  | told xs => rfl
  | lst n => rfl
  | rng lo c =>
    show turnsR g c lo a h = turnsR g c (lo + ((0 : Nat) : Int)) a h
    rw [show lo + ((0 : Nat) : Int) = lo by simp]
  | enl n => rfl
  | dct n xs => rfl
/-- a turn, then the rest -/
def turn {α : Type} (r : R (Lp α)) (k : α → Hh → R (Lp α)) : R (Lp α) := match r with
  | .ok (.nx a) h => k a h
  | .ok (.br a) h => .ok (.nx a) h
  | .ok (.rt v) h => .ok (.rt v) h
  | .no n => .no n

/-- J is the layer's word for what w walks: St stands while it is walked -/
structure Wk (K : PySem.W.Frag) (cl : Nat → Addr) (fn : Nm) (J : It) (w : Wi) (St : Nat → Nat → List Addr → Hp → Prop) : Prop where
  grow : ∀ k i m H m' H', St k i m H → Gro m H m' H' → St k i m' H'
  turn : ∀ {α : Type} (g : PV → α → Hh → R (Lp α)) (k i : Nat) (a : α) (h : Hh) (m : List Addr) (H : Hp), St k i m H → HR K cl fn m H h → (∀ n, rem w g k i a h ≠ .no n) →
    (J.stop i H ∧ rem w g k i a h = .ok (.nx a) h) ∨
    (∃ k', k = k' + 1 ∧ St k' (i + 1) m H ∧ J.go i H ∧ ∃ v, rem w g k i a h = Ev.turn (g v a h) (rem w g k' (i + 1)) ∧
      ∀ x H', J.yld i H x H' → Grow m H m H' ∧ HR K cl fn m H' h ∧ VR K m H' v x)
def WkOk (K : PySem.W.Frag) (cl : Nat → Addr) (fn : Nm) (J : It) (w : Wi) (m : List Addr) (H : Hp) : Prop := ∃ St, Wk K cl fn J w St ∧ St w.size 0 m H
def cI (K : PySem.W.Frag) (cl : Nat → Addr) (fn : Nm) (ei : Ei) : TI := fun σ H R => ∃ m env h, EnvR K m H env σ ∧ HR K cl fn m H h ∧ (match ei.run env h with
  | .ok w h1 => ∀ m1 H1 J, Grow m H m1 H1 → HR K cl fn m1 H1 h1 → WkOk K cl fn J w m1 H1 → R J H1
  | .no _ => False)
theorem _root_.L2.PI.of {X : Cx} {tg e : Expr} {t t' : TI} (h : PI X tg e t) (w : ∀ σ H Q, t' σ H Q → t σ H Q) : PI X tg e t' := ⟨fun pins s σ H R I q => h.run pins s σ H R I (w σ H R q)⟩

section
variable {K : PySem.W.Frag} {cl : Nat → Addr} {fn : Nm}
theorem drop_cons {α : Type} {l : List α} {i : Nat} {a : α} (e : l[i]? = some a) : l.drop i = a :: l.drop (i + 1) := by
  obtain ⟨h1, h2⟩ := List.getElem?_eq_some_iff.mp e
  rw [List.drop_eq_getElem_cons h1, h2]
theorem VRs.at2 : ∀ {m : List Addr} {H : Hp} {ps : List PV} {vs : List V} {i : Nat} {p : PV} {v : V}, VRs K m H ps vs → ps[i]? = some p → vs[i]? = some v → VR K m H p v
  | _, _, _, _, _, _, _, .nil, e, _ => by simp at e
  | _, _, _, _, 0, _, _, .cons r _, e, e2 => by simp at e e2; subst e; subst e2; exact r
  | _, _, _, _, i + 1, _, _, .cons _ t, e, e2 => VRs.at2 (i := i) t (by simpa using e) (by simpa using e2)
/-- a tuple -/
theorem wk_tup (a : Addr) (xs : List PV) : Wk K cl fn (Itt K a) (.told xs) (fun k i m H => k + i = xs.length ∧ ∃ vs, SqT K H a vs ∧ VRs K m H xs vs) where
  grow := fun k i m H m' H' ⟨e, vs, h1, h2⟩ g => ⟨e, vs, g.sqt h1, h2.gro g⟩
  turn := fun g k i a0 h m H ⟨e, vs, h1, h2⟩ r ok => by
    cases k with
    | zero =>
      refine .inl ⟨⟨vs, h1, by rw [← h2.length]; omega⟩, ?_⟩
      show turns g (xs.drop i) a0 h = _
      rw [List.drop_eq_nil_of_le (by omega)]
      rfl
    | succ k =>
      have hi : i < xs.length := by omega
      have hp : xs[i]? = some xs[i] := List.getElem?_eq_getElem hi
      have hv : vs[i]? = some (vs[i]'(by rw [← h2.length]; exact hi)) := List.getElem?_eq_getElem _
      refine .inr ⟨k, rfl, ⟨by omega, vs, h1, h2⟩, ⟨vs, _, h1, hv⟩, xs[i], ?_, fun x H' ⟨e1, e2⟩ => ?_⟩
      · show turns g (xs.drop i) a0 h = _
        rw [drop_cons hp]
        show (match g xs[i] a0 h with
          | .ok (.nx a1) h1 => turns g (xs.drop (i + 1)) a1 h1
          | .ok (.br a1) h1 => .ok (.nx a1) h1
          | .ok (.rt v) h1 => .ok (.rt v) h1
          | .no n => .no n) = _
        unfold Ev.turn
        split <;> simp_all [rem]
      · subst e1
        exact ⟨Grow.refl m H', r, h2.at2 hp (e2 vs h1)⟩
/-- a list that nobody changes -/
theorem wk_fro (a : Addr) (xs : List PV) : Wk K cl fn (Itl K a) (.told xs) (fun k i m H => k + i = xs.length ∧ ∃ vs, SqF K H a vs ∧ VRs K m H xs vs) where
  grow := fun k i m H m' H' ⟨e, vs, h1, h2⟩ g => ⟨e, vs, g.sqf h1, h2.gro g⟩
  turn := fun g k i a0 h m H ⟨e, vs, h1, h2⟩ r ok => by
    cases k with
    | zero =>
      refine .inl ⟨⟨vs, h1.sql, by rw [← h2.length]; omega⟩, ?_⟩
      show turns g (xs.drop i) a0 h = _
      rw [List.drop_eq_nil_of_le (by omega)]
      rfl
    | succ k =>
      have hi : i < xs.length := by omega
      have hp : xs[i]? = some xs[i] := List.getElem?_eq_getElem hi
      have hv : vs[i]? = some (vs[i]'(by rw [← h2.length]; exact hi)) := List.getElem?_eq_getElem _
      refine .inr ⟨k, rfl, ⟨by omega, vs, h1, h2⟩, ⟨vs, _, h1.sql, hv⟩, xs[i], ?_, fun x H' ⟨e1, e2⟩ => ?_⟩
      · show turns g (xs.drop i) a0 h = _
        rw [drop_cons hp]
        show (match g xs[i] a0 h with
          | .ok (.nx a1) h1 => turns g (xs.drop (i + 1)) a1 h1
          | .ok (.br a1) h1 => .ok (.nx a1) h1
          | .ok (.rt v) h1 => .ok (.rt v) h1
          | .no n => .no n) = _
        unfold Ev.turn
        split <;> simp_all [rem]
      · subst e1
        exact ⟨Grow.refl m H', r, h2.at2 hp (e2 vs h1.sql)⟩
/-- a list as it is -/
theorem wk_lst (a : Addr) (n : Nat) : Wk K cl fn (Itl K a) (.lst n) (fun k i m H => m[n]? = some a) where
  grow := fun k i m H m' H' h g => g.at h
  turn := fun {α} g k i a0 h m H st r ok => by
    cases k with
    | zero => exact absurd rfl (ok 101)
    | succ k =>
      have ok : ∀ z, (match lsOf h (.ref n) with
        | some xs => match listAt xs i with
          | none => R.ok (Lp.nx a0) h
          | some v => match g v a0 h with
            | .ok (.nx a1) h1 => frN (i + 1) fun j => turnsL g n k j a1 h1
            | .ok (.br a1) h1 => .ok (.nx a1) h1
            | .ok (.rt v) h1 => .ok (.rt v) h1
            | .no n => .no n
        | none => .no 102) ≠ .no z := ok
      show (_ ∧ (match lsOf h (.ref n) with
        | some xs => match listAt xs i with
          | none => R.ok (Lp.nx a0) h
          | some v => match g v a0 h with
            | .ok (.nx a1) h1 => frN (i + 1) fun j => turnsL g n k j a1 h1
            | .ok (.br a1) h1 => .ok (.nx a1) h1
            | .ok (.rt v) h1 => .ok (.rt v) h1
            | .no n => .no n
        | none => .no 102) = _) ∨ ∃ k', _ ∧ _ ∧ _ ∧ ∃ v, (match lsOf h (.ref n) with
        | some xs => match listAt xs i with
          | none => R.ok (Lp.nx a0) h
          | some v => match g v a0 h with
            | .ok (.nx a1) h1 => frN (i + 1) fun j => turnsL g n k j a1 h1
            | .ok (.br a1) h1 => .ok (.nx a1) h1
            | .ok (.rt v) h1 => .ok (.rt v) h1
            | .no n => .no n
        | none => .no 102) = _ ∧ _
      cases z : lsOf h (.ref n) with
      | none => rw [z] at ok; exact absurd rfl (ok 102)
      | some xs =>
        obtain ⟨b, vs, e0, h1, h2⟩ := lsOf_sql (x := .ref a) r (.ref st) z
        cases e0
        simp only []
        cases z2 : listAt xs i with
        | none =>
          refine .inl ⟨⟨vs, h1, ?_⟩, rfl⟩
          rw [listAt_get] at z2
          have := List.getElem?_eq_none_iff.mp z2
          rw [← h2.length]
          exact this
        | some p =>
          rw [listAt_get] at z2
          have hi : i < xs.length := (List.getElem?_eq_some_iff.mp z2).1
          have hv : vs[i]? = some (vs[i]'(by rw [← h2.length]; exact hi)) := List.getElem?_eq_getElem _
          refine .inr ⟨k, rfl, st, ⟨vs, _, h1, hv⟩, p, ?_, fun x H' ⟨e1, e2⟩ => ?_⟩
          · simp only [frN_eq]
            unfold Ev.turn
            split <;> simp_all [rem]
          · subst e1
            exact ⟨Grow.refl m H', r, h2.at2 z2 (e2 vs h1)⟩
/-- a range -/
theorem wk_rng (lo : Int) (c : Nat) : Wk K cl fn (Itr lo c) (.rng lo c) (fun k i m H => k + i = c) where
  grow := fun k i m H m' H' e g => e
  turn := fun g k i a0 h m H e r ok => by
    cases k with
    | zero => exact .inl ⟨show c ≤ i by omega, rfl⟩
    | succ k =>
      refine .inr ⟨k, rfl, by omega, show i < c by omega, .int (lo + i), ?_, fun x H' ⟨e1, e2⟩ => ?_⟩
      · show (match g (.int (lo + i)) a0 h with
          | .ok (.nx a1) h1 => turnsR g k (lo + i + 1) a1 h1
          | .ok (.br a1) h1 => .ok (.nx a1) h1
          | .ok (.rt v) h1 => .ok (.rt v) h1
          | .no n => .no n) = _
        have e3 : lo + (i : Int) + 1 = lo + ((i + 1 : Nat) : Int) := by omega
        rw [e3]
        unfold Ev.turn
        split <;> simp_all [rem]
      · subst e1 e2
        exact ⟨Grow.refl m H', r, .int _⟩
/-! a dict -/
theorem DO.dps {w : World} {m : List Addr} {H : Hp} {a : Addr} {kvs : List (PV × PV)} {u : HO} {tk : Bool} (r : DO K w m H a kvs u tk) : ∃ ps, DPs w a u ps ∧ Paired (fun (q : PV × PV) (p : V × V) => VR K m H q.1 p.1 ∧ VR K m H q.2 p.2) kvs ps := by
  cases tk with
  | false =>
    obtain ⟨ls, rfl, h⟩ := r
    refine ⟨_, .inl ⟨ls, rfl, rfl⟩, ?_⟩
    induction h with
    | nil => exact .nil
    | @cons q x _ _ hq t ih =>
      refine .cons ⟨?_, hq.2⟩ ih
      rw [hq.1]
      show VR K m H (kP x.1) (kV x.1)
      cases x.1 with
      | inl i => exact .int i
      | inr y => exact .str y
  | true =>
    obtain ⟨xs, rfl, h⟩ := r
    refine ⟨_, .inr ⟨xs, rfl, rfl⟩, ?_⟩
    induction h with
    | nil => exact .nil
    | @cons q x _ _ hq t ih => exact .cons ⟨hq.2.2.2.1, hq.2.2.2.2⟩ ih
theorem keysR {m : List Addr} {H : Hp} : ∀ {kvs : List (PV × PV)} {ps : List (V × V)}, Paired (fun (q : PV × PV) (p : V × V) => VR K m H q.1 p.1 ∧ VR K m H q.2 p.2) kvs ps → VRs K m H (kvs.map (·.1)) (ps.map (·.1))
  | _, _, .nil => .nil
  | _, _, .cons r t => .cons r.1 (keysR t)
abbrev PsR (K : PySem.W.Frag) (m : List Addr) (H : Hp) : List PV → List (V × V) → Prop := Paired fun x p => ∃ k v, x = .tup [k, v] ∧ VR K m H k p.1 ∧ VR K m H v p.2
theorem pairsR {m : List Addr} {H : Hp} : ∀ {kvs : List (PV × PV)} {ps : List (V × V)}, Paired (fun (q : PV × PV) (p : V × V) => VR K m H q.1 p.1 ∧ VR K m H q.2 p.2) kvs ps → PsR K m H (pairs kvs) ps
  | [], _, .nil => .nil
  | (k, v) :: _, _, .cons r t => .cons ⟨k, v, rfl, r.1, r.2⟩ (pairsR t)
theorem PsR.gro {m m' : List Addr} {H H' : Hp} (g : Gro m H m' H') {xs : List PV} {ps : List (V × V)} (r : PsR K m H xs ps) : PsR K m' H' xs ps := Paired.mapP r fun _ _ ⟨k, v, e, h1, h2⟩ => ⟨k, v, e, h1.gro g, h2.gro g⟩
theorem dkeys {d : Dd} {kvs : List (PV × PV)} (r : DR d kvs) : d.keys = kvs.map (·.1) := r.ks
theorem wk_q (n : Nat) (a : Addr) (o : Obj) (u : HO) (ps : List (V × V)) (xs : List PV) : Wk K cl fn (Itq a o u ps) (.dct n xs) (fun k i m H => k + i = xs.length ∧ H a = some (.frz o u) ∧ VRs K m H xs (ps.map (·.1))) where
  grow := fun k i m H m' H' ⟨e, h1, h2⟩ g => ⟨e, g.frzs _ _ _ h1, h2.gro g⟩
  turn := fun g k i a0 h m H ⟨e, h1, h2⟩ r ok => by
    have hl : xs.length = ps.length := by rw [h2.length, List.length_map]
    cases k with
    | zero =>
      refine .inl ⟨⟨h1, by omega⟩, ?_⟩
      show turns g (xs.drop i) a0 h = _
      rw [List.drop_eq_nil_of_le (by omega)]
      rfl
    | succ k =>
      have hi : i < xs.length := by omega
      have hp : xs[i]? = some xs[i] := List.getElem?_eq_getElem hi
      refine .inr ⟨k, rfl, ⟨by omega, h1, h2⟩, ⟨h1, by omega⟩, xs[i], ?_, fun x H' ⟨e1, p, ep, ex⟩ => ?_⟩
      · show turns g (xs.drop i) a0 h = _
        rw [drop_cons hp]
        show (match g xs[i] a0 h with
          | .ok (.nx a1) h1 => turns g (xs.drop (i + 1)) a1 h1
          | .ok (.br a1) h1 => .ok (.nx a1) h1
          | .ok (.rt v) h1 => .ok (.rt v) h1
          | .no n => .no n) = _
        unfold Ev.turn
        split <;> simp_all [rem]
      · subst e1 ex
        exact ⟨Grow.refl m H', r, h2.at2 hp (by rw [List.getElem?_map, ep]; rfl)⟩
theorem wk_p (n : Nat) (a : Addr) (o : Obj) (u : HO) (ps : List (V × V)) (xs : List PV) : Wk K cl fn (Itp a o u ps) (.dct n xs) (fun k i m H => k + i = xs.length ∧ H a = some (.frz o u) ∧ PsR K m H xs ps) where
  grow := fun k i m H m' H' ⟨e, h1, h2⟩ g => ⟨e, g.frzs _ _ _ h1, h2.gro g⟩
  turn := fun g k i a0 h m H ⟨e, h1, h2⟩ r ok => by
    have hl : xs.length = ps.length := Paired.length h2
    cases k with
    | zero =>
      refine .inl ⟨⟨h1, by omega⟩, ?_⟩
      show turns g (xs.drop i) a0 h = _
      rw [List.drop_eq_nil_of_le (by omega)]
      rfl
    | succ k =>
      have hi : i < xs.length := by omega
      have hp : xs[i]? = some xs[i] := List.getElem?_eq_getElem hi
      refine .inr ⟨k, rfl, ⟨by omega, h1, h2⟩, ⟨h1, by omega⟩, xs[i], ?_, fun x H' ⟨T, p, ep, ex, hT, eH⟩ => ?_⟩
      · show turns g (xs.drop i) a0 h = _
        rw [drop_cons hp]
        show (match g xs[i] a0 h with
          | .ok (.nx a1) h1 => turns g (xs.drop (i + 1)) a1 h1
          | .ok (.br a1) h1 => .ok (.nx a1) h1
          | .ok (.rt v) h1 => .ok (.rt v) h1
          | .no n => .no n) = _
        unfold Ev.turn
        split <;> simp_all [rem]
      · subst eH ex
        have g0 : Grow m H m (upd H T (.tup [p.1, p.2])) := Grow.upd_new0 hT
        obtain ⟨p', ep', k', v', ev, q1, q2⟩ := L2.paired_get h2 hp
        rw [ep] at ep'
        cases ep'
        rw [ev]
        exact ⟨g0, r.tup hT, .tup (.inl (.inl upd_same)) (.cons (q1.grow g0) (.cons (q2.grow g0) .nil))⟩
end

/-! ### iterables -/
section
variable {X : Cx} {cl : Nat → Addr} {fn : Nm} {pos : Pos} {tg : Expr}
/-- a list or a tuple, as it comes -/
def iSeq (K : PySem.W.Frag) (w : World) (tl : TE) : TI := fun σ H R => tl σ H fun x H1 => (∃ a, x = .ref a ∧ (((∃ xs, SqL K H1 a xs) ∧ R (Itl K a) H1) ∨ ((∃ xs, SqT K H1 a xs) ∧ R (Itt K a) H1))) ∨ kDct w Itq R x H1
theorem pi_seq {l : Expr} {tl : TE} (hl : PE X l tl) : PI X tg l (iSeq X.K X.w tl) := by
  refine ⟨fun pins s σ H R I h => ?_⟩
  refine thn (hl.run pins s σ H _ I h) fun v s1 ⟨x, H1, I1, r1, q1⟩ => ?_
  rcases q1 with ⟨a, e, q⟩ | q
  rotate_left
  · obtain ⟨a, o, u, ps, H2, rfl, rfl, dp, e1, I2, q⟩ := kdct_ok I1 r1 q
    exact q_iter I2 e1 dp q
  subst e
  cases r1
  rcases q with ⟨⟨xs, hq⟩, q⟩ | ⟨⟨xs, hq⟩, q⟩
  · obtain ⟨its, rv, p, hz⟩ := I1.list hq
    refine wpAny_pyIter_list p.isList ?_
    refine ⟨s1.heap.objs.size, [s1.heap.objs.size], _, _, H1, rfl, I1.kept (t' := s1.toks) fun b o e => Heap.get?_push_of_some _ e, turn_list a _, ⟨_, Heap.get?_push_size _ rfl, rfl, rfl⟩, fun b hb => ?_, q⟩
    have e : b = s1.heap.objs.size := by simpa using hb
    subst e
    exact I1.fpOk (Nat.le_refl _) (I1.hok.fresh (Nat.le_refl _))
  · obtain ⟨its, rv, p, hz⟩ := I1.tuple hq
    refine wpAny_pyIter_tuple (show s1.heap.IsTuple a its.toArray from p) ?_
    refine ⟨s1.heap.objs.size, [s1.heap.objs.size], _, _, H1, rfl, I1.kept (t' := s1.toks) fun b o e => Heap.get?_push_of_some _ e, turn_tuple a _, ⟨_, Heap.get?_push_size _ rfl, rfl, rfl⟩, fun b hb => ?_, q⟩
    have e : b = s1.heap.objs.size := by simpa using hb
    subst e
    exact I1.fpOk (Nat.le_refl _) (I1.hok.fresh (Nat.le_refl _))
/-- a dict is there: it is walked -/
theorem kdct_of {Jf : Addr → Obj → HO → List (V × V) → It} {f : List (PV × PV) → List PV} (hw : fn.w = X.w) {m : List Addr} {H : Hp} {h : Hh} {n : Nat} {a : Addr} {d : Dd} {Rr : It → Hp → Prop} (r : HR X.K cl fn m H h) (ha : m[n]? = some a)
    (z : h.get n = some (.dct d) ∨ h.get n = some (.dlk d)) (wk : ∀ kvs ps o u m1 H1, DR d kvs → DPs X.w a u ps → H1 a = some (.frz o u) → Paired (fun (q : PV × PV) (p : V × V) => VR X.K m1 H1 q.1 p.1 ∧ VR X.K m1 H1 q.2 p.2) kvs ps → WkOk X.K cl fn (Jf a o u ps) (.dct n (f d.kvs)) m1 H1)
    (k : ∀ h1, (h1 = match h.get n with | some (.dct _) => h.put n (.dlk d) | _ => h) → ∀ m1 H1 J, Grow m H m1 H1 → HR X.K cl fn m1 H1 h1 → WkOk X.K cl fn J (.dct n (f d.kvs)) m1 H1 → Rr J H1) : kDct X.w Jf Rr (.ref a) H := by
  rcases z with z | z
  · obtain ⟨kvs, u, h1, h2, h3, h4⟩ := r.lock z ha
    rw [hw] at h3
    obtain ⟨ps, dp, pr⟩ := h3.dps
    refine ⟨a, u, ps, rfl, dp, .inr ⟨h2, fun o => ?_⟩⟩
    obtain ⟨r1, g1⟩ := h4 o
    refine k (h.put n (.dlk d)) (by rw [z]) m _ _ g1 r1 (wk kvs ps o u m _ h1 dp upd_same ?_)
    exact Paired.mapP pr fun _ _ q => ⟨q.1.grow g1, q.2.grow g1⟩
  · obtain ⟨b, e1, kvs, o, u, h1, h2, h3⟩ := r.ob n _ z
    rw [ha] at e1
    cases e1
    rw [hw] at h3
    obtain ⟨ps, dp, pr⟩ := h3.dps
    exact ⟨a, u, ps, rfl, dp, .inl ⟨o, h2, k h (by rw [z]) m H _ (Grow.refl m H) r (wk kvs ps o u m H h1 dp h2 pr)⟩⟩
theorem wk_keys {d : Dd} (n : Nat) (a : Addr) {X : Cx} : ∀ kvs ps o u m1 H1, DR d kvs → DPs X.w a u ps → H1 a = some (.frz o u) → Paired (fun (q : PV × PV) (p : V × V) => VR X.K m1 H1 q.1 p.1 ∧ VR X.K m1 H1 q.2 p.2) kvs ps → WkOk X.K cl fn (Itq a o u ps) (.dct n (d.kvs.map (·.1))) m1 H1 := fun kvs ps o u m1 H1 h1 _ h2 pr => by
  rw [h1.kvs]
  exact ⟨_, wk_q n a o u ps _, by show _ + 0 = _; rfl, h2, keysR pr⟩
theorem wk_prs {d : Dd} (n : Nat) (a : Addr) {X : Cx} : ∀ kvs ps o u m1 H1, DR d kvs → DPs X.w a u ps → H1 a = some (.frz o u) → Paired (fun (q : PV × PV) (p : V × V) => VR X.K m1 H1 q.1 p.1 ∧ VR X.K m1 H1 q.2 p.2) kvs ps → WkOk X.K cl fn (Itp a o u ps) (.dct n (pairs d.kvs)) m1 H1 := fun kvs ps o u m1 H1 h1 _ h2 pr => by
  rw [h1.kvs]
  exact ⟨_, wk_p n a o u ps _, by show _ + 0 = _; rfl, h2, pairsR pr⟩
theorem HR.dkeys {m : List Addr} {H : Hp} {h : Hh} {n : Nat} {d : Dd} (r : HR X.K cl fn m H h) (z : ddOf h n = some d) (hm : ∃ a, m[n]? = some a) : d.keys = d.kvs.map (·.1) := by
  obtain ⟨a, ha⟩ := hm
  obtain ⟨kvs, u, h1, _⟩ := r.dd z ha
  rw [h1.kvs]
  exact h1.ks
theorem pi_seqC {l : Expr} {f : Ee} (hw : fn.w = X.w) (hl : PE X l (cE X.K cl fn f)) : PI X tg l (cI X.K cl fn ⟨itSeq f⟩) := by
  refine (pi_seq hl).of fun σ H Rr ⟨m, env, h, e, r, k⟩ => ?_
  have k : (match (match f.run env h with
    | .ok v h1 => match v with
      | .tup xs => R.ok (Wi.told xs) h1
      | .fro xs => .ok (.told xs) h1
      | .ref n => match h1.get n with
        | some (.lst _) => .ok (.lst n) h1
        | some (.dct d) => .ok (.dct n d.keys) (h1.put n (.dlk d))
        | some (.dlk d) => .ok (.dct n d.keys) h1
        | _ => .no 103
      | _ => .no 103
    | .no n => .no n) with
    | .ok w h1 => ∀ m1 H1 J, Grow m H m1 H1 → HR X.K cl fn m1 H1 h1 → WkOk X.K cl fn J w m1 H1 → Rr J H1
    | .no _ => False) := k
  cases z : f.run env h with
  | no n => rw [z] at k; exact k.elim
  | ok v h1 =>
    rw [z] at k
    refine cE.bind e r (fun v' h1' z' m1 H1 x g r1 e1 q => ?_) (fun n z' => by rw [z] at z'; cases z')
    rw [z] at z'; cases z'
    cases v with
    | tup xs =>
      obtain ⟨a, vs, rfl, h2, h3⟩ := q.tup_inv
      exact .inl ⟨a, rfl, .inr ⟨⟨vs, h2⟩, k m1 H1 _ g r1 ⟨_, wk_tup a xs, by show xs.length + 0 = xs.length; omega, vs, h2, h3⟩⟩⟩
    | fro xs =>
      obtain ⟨a, vs, rfl, h2, h3⟩ := q.fro_inv
      exact .inl ⟨a, rfl, .inl ⟨⟨vs, h2.sql⟩, k m1 H1 _ g r1 ⟨_, wk_fro a xs, by show xs.length + 0 = xs.length; omega, vs, h2, h3⟩⟩⟩
    | ref n =>
      have k : (match (match h1.get n with
        | some (.lst _) => R.ok (Wi.lst n) h1
        | some (.dct d) => .ok (.dct n d.keys) (h1.put n (.dlk d))
        | some (.dlk d) => .ok (.dct n d.keys) h1
        | _ => .no 103) with
        | .ok w h1 => ∀ m1 H1 J, Grow m H m1 H1 → HR X.K cl fn m1 H1 h1 → WkOk X.K cl fn J w m1 H1 → Rr J H1
        | .no _ => False) := k
      obtain ⟨a, rfl, ha⟩ := q.ref_inv
      cases z2 : h1.get n with
      | none => rw [z2] at k; exact k.elim
      | some o =>
        rw [z2] at k
        cases o with
        | lst xs =>
          obtain ⟨vs, h2, h3⟩ := r1.lst z2 ha
          exact .inl ⟨a, rfl, .inl ⟨⟨vs, SqL.of h2⟩, k m1 H1 _ g r1 ⟨_, wk_lst a n, ha⟩⟩⟩
        | dct d =>
          have ek := HR.dkeys (d := d) r1 (by unfold ddOf; rw [z2]) ⟨a, ha⟩
          refine .inr (kdct_of (d := d) hw r1 ha (.inl z2) (wk_keys n a) fun h2 e2 m2 H2 J g2 r2 w2 => ?_)
          rw [z2] at e2
          subst e2
          exact k m2 H2 J (g.trans g2) r2 (by rw [ek]; exact w2)
        | dlk d =>
          have ek := HR.dkeys (d := d) r1 (by unfold ddOf; rw [z2]) ⟨a, ha⟩
          refine .inr (kdct_of (d := d) hw r1 ha (.inr z2) (wk_keys n a) fun h2 e2 m2 H2 J g2 r2 w2 => ?_)
          rw [z2] at e2
          subst e2
          exact k m2 H2 J (g.trans g2) r2 (by rw [ek]; exact w2)
        | ins c fs => exact (show False from k).elim
    | _ => exact (show False from k).elim
theorem pi_itemsC {l : Expr} {f : Ee} {apos cpos : Pos} {elts : List Expr} {kk : Nat} {tpos : Pos} (hw : fn.w = X.w) (hl : PE X l (cE X.K cl fn f)) (hbase : attributeBase l "items" X.env (eval l X.env) = eval l X.env) (hline : (apos.endLine == cpos.line) = true) :
    PI X (.Tuple elts kk tpos) (.Call (.Attribute l "items" apos) [] [] cpos) (cI X.K cl fn ⟨itItems f⟩) := by
  refine (pi_ditems hl hbase hline).of fun σ H Rr ⟨m, env, h, e, r, k⟩ => ?_
  have k : (match (match f.run env h with
    | .ok v h1 => match v with
      | .ref n => match h1.get n with
        | some (.dct d) => R.ok (Wi.dct n (pairs d.kvs)) (h1.put n (.dlk d))
        | some (.dlk d) => R.ok (Wi.dct n (pairs d.kvs)) h1
        | _ => .no 103
      | _ => .no 103
    | .no n => .no n) with
    | .ok w h1 => ∀ m1 H1 J, Grow m H m1 H1 → HR X.K cl fn m1 H1 h1 → WkOk X.K cl fn J w m1 H1 → Rr J H1
    | .no _ => False) := k
  cases z : f.run env h with
  | no n => rw [z] at k; exact k.elim
  | ok v h1 =>
    rw [z] at k
    refine cE.bind e r (fun v' h1' z' m1 H1 x g r1 e1 q => ?_) (fun n z' => by rw [z] at z'; cases z')
    rw [z] at z'; cases z'
    cases v with
    | ref n =>
      have k : (match (match h1.get n with
        | some (.dct d) => R.ok (Wi.dct n (pairs d.kvs)) (h1.put n (.dlk d))
        | some (.dlk d) => R.ok (Wi.dct n (pairs d.kvs)) h1
        | _ => .no 103) with
        | .ok w h1 => ∀ m1 H1 J, Grow m H m1 H1 → HR X.K cl fn m1 H1 h1 → WkOk X.K cl fn J w m1 H1 → Rr J H1
        | .no _ => False) := k
      obtain ⟨a, rfl, ha⟩ := q.ref_inv
      cases z2 : h1.get n with
      | none => rw [z2] at k; exact k.elim
      | some o =>
        rw [z2] at k
        cases o with
        | lst xs => exact (show False from k).elim
        | dct d =>
          refine kdct_of (d := d) hw r1 ha (.inl z2) (wk_prs n a) fun h2 e2 m2 H2 J g2 r2 w2 => ?_
          rw [z2] at e2
          subst e2
          exact k m2 H2 J (g.trans g2) r2 w2
        | dlk d =>
          refine kdct_of (d := d) hw r1 ha (.inr z2) (wk_prs n a) fun h2 e2 m2 H2 J g2 r2 w2 => ?_
          rw [z2] at e2
          subst e2
          exact k m2 H2 J (g.trans g2) r2 w2
        | ins c fs => exact (show False from k).elim
    | _ => exact (show False from k).elim
theorem pi_range1C {p : Pos} {a : Expr} {f : Ee} (hg : Gl X "range") (hm : X.mg "range" = none) (hs : isStar a = false) (ha : PE X a (cE X.K cl fn f)) : PI X tg (.Call (.Name "range" p) [a] [] pos) (cI X.K cl fn ⟨itRange1 f⟩) := by
  refine (pi_range1 hg hm (pa_consC (cl := cl) (fn := fn) hs ha pa_nilC) (hs := star_no hs)).of fun σ H Rr ⟨m, env, h, e, r, k⟩ => ?_
  have k : (match (match f.run env h with
    | .ok v h1 => match v with
      | .int n => match bound62 n with
        | true => frN n.toNat fun k => R.ok (Wi.rng 0 k) h1
        | false => .no 104
      | _ => .no 104
    | .no n => .no n) with
    | .ok w h1 => ∀ m1 H1 J, Grow m H m1 H1 → HR X.K cl fn m1 H1 h1 → WkOk X.K cl fn J w m1 H1 → Rr J H1
    | .no _ => False) := k
  cases z : f.run env h with
  | no n => rw [z] at k; exact k.elim
  | ok v h1 =>
    rw [z] at k
    have zl : evL [f] env h = .ok [v] h1 := by
      show (match f.run env h with
        | .ok v h1 => match evL [] env h1 with
          | .ok vs h2 => R.ok (v :: vs) h2
          | .no n => .no n
        | .no n => .no n) = _
      rw [z]; rfl
    cases v with
    | int n =>
      have k : (match (match bound62 n with
        | true => frN n.toNat fun k => R.ok (Wi.rng 0 k) h1
        | false => .no 104) with
        | .ok w h1 => ∀ m1 H1 J, Grow m H m1 H1 → HR X.K cl fn m1 H1 h1 → WkOk X.K cl fn J w m1 H1 → Rr J H1
        | .no _ => False) := k
      cases zb : bound62 n with
      | false => rw [zb] at k; exact k.elim
      | true =>
        rw [zb] at k
        simp only [frN_eq] at k
        obtain ⟨b1, b2⟩ := bound62_ok zb
        refine cL.bind e r (fun vs' h1' z' m1 H1 xs g r1 e1 q => ?_) (fun n z' => by rw [zl] at z'; cases z')
        rw [zl] at z'; cases z'
        cases q with
        | cons q1 q2 =>
          cases q1; cases q2
          exact ⟨n, rfl, b1, b2, k m1 H1 _ g r1 ⟨_, wk_rng 0 n.toNat, by show n.toNat + 0 = n.toNat; omega⟩⟩
    | _ => exact (show False from k).elim
theorem pi_range2C {p : Pos} {a b : Expr} {f f2 : Ee} (hg : Gl X "range") (hm : X.mg "range" = none) (hs : isStar a = false) (hs2 : isStar b = false) (ha : PE X a (cE X.K cl fn f)) (hb : PE X b (cE X.K cl fn f2)) :
    PI X tg (.Call (.Name "range" p) [a, b] [] pos) (cI X.K cl fn ⟨itRange2 f f2⟩) := by
  refine (pi_range2 hg hm (pa_consC (cl := cl) (fn := fn) hs ha (pa_consC hs2 hb pa_nilC)) (hs := (star_no hs).trans (by rw [star_no hs2]; rfl)) (hs2 := star_no hs2)).of fun σ H Rr ⟨m, env, h, e, r, k⟩ => ?_
  have k : (match (match f.run env h with
    | .ok v h1 => match f2.run env h1 with
      | .ok w h2 => match v, w with
        | .int i, .int j => match bound62 i && bound62 j with
          | true => frN (j - i).toNat fun k => R.ok (Wi.rng i k) h2
          | false => .no 105
        | _, _ => .no 105
      | .no n => .no n
    | .no n => .no n) with
    | .ok w h1 => ∀ m1 H1 J, Grow m H m1 H1 → HR X.K cl fn m1 H1 h1 → WkOk X.K cl fn J w m1 H1 → Rr J H1
    | .no _ => False) := k
  cases z : f.run env h with
  | no n => rw [z] at k; exact k.elim
  | ok v h1 =>
    rw [z] at k
    have k : (match (match f2.run env h1 with
      | .ok w h2 => match v, w with
        | .int i, .int j => match bound62 i && bound62 j with
          | true => frN (j - i).toNat fun k => R.ok (Wi.rng i k) h2
          | false => .no 105
        | _, _ => .no 105
      | .no n => .no n) with
      | .ok w h1 => ∀ m1 H1 J, Grow m H m1 H1 → HR X.K cl fn m1 H1 h1 → WkOk X.K cl fn J w m1 H1 → Rr J H1
      | .no _ => False) := k
    cases z2 : f2.run env h1 with
    | no n => rw [z2] at k; exact k.elim
    | ok w h2 =>
      rw [z2] at k
      have zl : evL [f, f2] env h = .ok [v, w] h2 := by
        show (match f.run env h with
          | .ok v h1 => match (match f2.run env h1 with
            | .ok v h1 => match evL [] env h1 with
              | .ok vs h2 => R.ok (v :: vs) h2
              | .no n => .no n
            | .no n => .no n) with
            | .ok vs h2 => R.ok (v :: vs) h2
            | .no n => .no n
          | .no n => .no n) = _
        rw [z]
        simp only []
        rw [z2]
        rfl
      cases v with
      | int i =>
        cases w with
        | int j =>
          have k : (match (match bound62 i && bound62 j with
            | true => frN (j - i).toNat fun k => R.ok (Wi.rng i k) h2
            | false => .no 105) with
            | .ok w h1 => ∀ m1 H1 J, Grow m H m1 H1 → HR X.K cl fn m1 H1 h1 → WkOk X.K cl fn J w m1 H1 → Rr J H1
            | .no _ => False) := k
          cases zb : bound62 i && bound62 j with
          | false => rw [zb] at k; exact k.elim
          | true =>
            rw [zb] at k
            simp only [frN_eq] at k
            obtain ⟨zb1, zb2⟩ := Bool.and_eq_true_iff.mp zb
            obtain ⟨b1, b2⟩ := bound62_ok zb1
            obtain ⟨b3, b4⟩ := bound62_ok zb2
            refine cL.bind e r (fun vs' h1' z' m1 H1 xs g r1 e1 q => ?_) (fun n z' => by rw [zl] at z'; cases z')
            rw [zl] at z'; cases z'
            cases q with
            | cons q1 q2 =>
              cases q2 with
              | cons q2 q3 =>
                cases q1; cases q2; cases q3
                exact ⟨i, j, rfl, ⟨b1, b2, b3, b4⟩, k m1 H1 _ g r1 ⟨_, wk_rng i (j - i).toNat, by show (j - i).toNat + 0 = (j - i).toNat; omega⟩⟩
        | _ => exact (show False from k).elim
      | _ => cases w <;> exact (show False from k).elim
end
end Ev

set_option Elab.async false
set_option linter.all false
set_option maxRecDepth 100000
set_option maxHeartbeats 1000000
/-! EvE0: enumerate over a tuple, at the library's level (turned from the proofs for lists). -/
namespace EvE
open PySem
open PySem.Sem (wp)
open AutoSeq1 (wpAny_loadPart')
theorem meets_enumerate_newT (l : Addr) (items : Array Value) :
    Meets (Builtin.«enumerate.__new__» ⟨[.type "enumerate", .ref l], []⟩) (fun _ R s => s.heap.IsTuple l items ∧
      R (.ok (.ret (.ref (s.heap.push { cls := .type "tuple_iterator", data := .fields #[.ref l, .int 0 0] }).objs.size)))
        { s with heap := (s.heap.push { cls := .type "tuple_iterator", data := .fields #[.ref l, .int 0 0] }).push { cls := .type "enumerate", data := .fields #[.none, .bool false, .ref s.heap.objs.size, rawInt 0, .none, .none] } }) :=
  .of_wp fun prog w A R s h => by
    obtain ⟨hp, g, d, tk, os⟩ := s; obtain ⟨hl, h⟩ := h
    have hsub := sub_enumerate
    have hL : Heap.IsTuple (Shared.heap ⟨hp, g, d, tk, os⟩) l items := hl
    wp_walk using wpAny_pyIter_tuple hL
    refine wpAny_stack_any fun st => wpAny_pure ?_
    split
    · rename_i c _ _ _ _ _
      cases (c == Value.type "enumerate")
      · wp_walk using wpAny_pyIter_tuple hL
        exact ⟨_, rfl, h⟩
      · wp_walk using wpAny_pyIter_tuple hL
        exact ⟨_, rfl, h⟩
    · wp_walk using wpAny_pyIter_tuple hL
      exact ⟨_, rfl, h⟩


section
variable {prog : Program} {w : World} {A : Around} {E : Value → Shared → Prop} {s : Shared}
theorem call_enumerate_tuple {l : Addr} {items : Array Value} {Q : Value → Shared → Prop} (hL : s.heap.IsTuple l items)
    (h : ∀ h', IsEnum h' (s.heap.objs.size + 1) s.heap.objs.size 0 .none → h'.IsTupleIter s.heap.objs.size l 0 → h'.objs.size = s.heap.objs.size + 2 →
      (∀ b o, s.heap.get? b = some o → h'.get? b = some o) → Q (.ref (s.heap.objs.size + 1)) { s with heap := h' }) :
    wpAny (model prog w) A (call (.type "enumerate") [.ref l]) Q E s := by
  refine callType_new F.called_enumerate (by decide) (F.typeCall_enumerate_1 _) (F.newCall_enumerate_1 _) (fun obj => F.args_object_init_2 obj _) F.entry_enumerate_new
    (meets_enumerate_newT l items) ⟨hL, ?_⟩
  have hz : (s.heap.push { cls := .type "tuple_iterator", data := .fields #[.ref l, .int 0 0] }).objs.size = s.heap.objs.size + 1 := Heap.size_push ..
  show _ ∧ _
  rw [hz]
  have he : IsEnum ((s.heap.push { cls := .type "tuple_iterator", data := .fields #[.ref l, .int 0 0] }).push
      { cls := .type "enumerate", data := .fields #[.none, .bool false, .ref s.heap.objs.size, rawInt 0, .none, .none] }) (s.heap.objs.size + 1) s.heap.objs.size 0 .none := by
    have := Heap.get?_push_size (s.heap.push { cls := .type "tuple_iterator", data := .fields #[.ref l, .int 0 0] })
      (o := { cls := .type "enumerate", data := .fields #[.none, .bool false, .ref s.heap.objs.size, rawInt 0, .none, .none] }) rfl
    rw [hz] at this; exact this
  refine ⟨⟨_, he, rfl⟩, h _ he ⟨_, Heap.get?_push_of_some _ (Heap.get?_push_size _ rfl), rfl, rfl⟩ (by rw [Heap.size_push, hz]) fun b o x => Heap.get?_push_of_some _ (Heap.get?_push_of_some _ x)⟩

theorem enumT_next_item {e it l : Addr} {i : Nat} {items : Array Value} {x old : Value} {Q : Value → Shared → Prop}
    (he : IsEnum s.heap e it i old) (hit : s.heap.IsTupleIter it l i) (hl : s.heap.IsTuple l items) (hx : items[i]? = some x) (hne : e ≠ it)
    (hQ : ∀ h', IsEnumOut h' e it ((i : Int) + 1) x s.heap.objs.size → h'.IsTupleIter it l (i + 1) →
      h'.get? s.heap.objs.size = some { cls := .type "tuple", data := .seq #[.int i s.toks, x] } → h'.objs.size = s.heap.objs.size + 1 →
      (∀ b o, b ≠ e → b ≠ it → s.heap.get? b = some o → h'.get? b = some o) → Q (.ref s.heap.objs.size) { s with heap := h', toks := s.toks + 1 }) :
    wpAny (model prog w) A (Builtin.«enumerate.__next__» ⟨[.ref e], []⟩) (fun fin s' => ∃ v, fin = .done (.ret v) ∧ Q v s') E s := by
  obtain ⟨hp, g, d, tk, os⟩ := s
  show wpAny _ _ (field (.ref e) 2 >>= _) _ _ _
  refine wpAny_bind (wpAny_field he rfl (x := .ref it) rfl ?_)
  refine wpAny_bind (RZ.nextOf_tuple_item hit hl hx fun h₁ hit₁ hs₁ => ?_)
  replace hs₁ : Heap.SameBut it hp h₁ := hs₁
  have he₁ : IsEnum h₁ e it i old := (hs₁.2 e hne).trans he
  show wpAny _ _ (field (.ref e) 3 >>= _) _ _ ⟨h₁, g, d, tk, os⟩
  refine wpAny_bind (wpAny_field he₁ rfl (x := rawInt i) rfl ?_)
  show wpAny _ _ (field (.ref e) 4 >>= _) _ _ ⟨h₁, g, d, tk, os⟩
  refine wpAny_bind (wpAny_field he₁ rfl (x := .none) rfl ?_)
  show wpAny _ _ (mkInt i >>= _) _ _ ⟨h₁, g, d, tk, os⟩
  refine wpAny_bind (wpAny_mkInt ?_)
  show wpAny _ _ (setField (.ref e) 3 (rawInt ((i : Int) + 1)) >>= _) _ _ ⟨h₁, g, d, tk + 1, os⟩
  refine wpAny_bind (wpAny_setField_rec he₁ (by simp) fun h₂ he₂ hs₂ => ?_)
  replace hs₂ : Heap.SameBut e h₁ h₂ := hs₂
  replace he₂ : IsEnum h₂ e it ((i : Int) + 1) old := he₂
  show wpAny _ _ (setField (.ref e) 4 .none >>= _) _ _ ⟨h₂, g, d, tk + 1, os⟩
  refine wpAny_bind (wpAny_setField_rec he₂ (by simp) fun h₃ he₃ hs₃ => ?_)
  replace hs₃ : Heap.SameBut e h₂ h₃ := hs₃
  replace he₃ : IsEnum h₃ e it ((i : Int) + 1) old := he₃
  show wpAny _ _ (newTuple [.int i tk, x] >>= _) _ _ ⟨h₃, g, d, tk + 1, os⟩
  refine wpAny_bind (wpAny_newTuple ?_)
  have he₄ : IsEnum (h₃.push { cls := .type "tuple", data := .seq #[.int i tk, x] }) e it ((i : Int) + 1) old := Heap.get?_push_of_some _ he₃
  generalize hh₄ : h₃.push { cls := .type "tuple", data := .seq #[.int i tk, x] } = h₄ at he₄
  have hsz : h₃.objs.size = hp.objs.size := by rw [hs₃.1, hs₂.1, hs₁.1]
  have hel : e < hp.objs.size := Heap.lt_size he
  have ht₄ : h₄.get? hp.objs.size = some { cls := .type "tuple", data := .seq #[.int i tk, x] } := by rw [← hh₄, ← hsz]; exact Heap.get?_push_size _ rfl
  have hz₄ : h₄.objs.size = hp.objs.size + 1 := by rw [← hh₄, Heap.size_push, hsz]
  have hk₄ : ∀ b o, b ≠ e → b ≠ it → hp.get? b = some o → h₄.get? b = some o := fun b o hbe hbi hb => by
    rw [← hh₄]; exact Heap.get?_push_of_some _ (hs₃.extBut b o hbe (hs₂.extBut b o hbe (hs₁.extBut b o hbi hb)))
  have hit₄ : h₄.IsTupleIter it l (i + 1) := by
    rw [← hh₄]; obtain ⟨o, ho, r⟩ := (hit₁.extBut hs₂.extBut (Ne.symm hne)).extBut hs₃.extBut (Ne.symm hne); exact ⟨o, Heap.get?_push_of_some _ ho, r⟩
  show wpAny _ _ (Builtin.SmallTypes.ownedTupleIsFree (.ref e) >>= _) _ _ ⟨h₄, g, d, tk + 1, os⟩
  rw [hsz]
  clear hh₄ he₃ hs₃ he₂ hs₂ he₁ hs₁ hit₁ hsz h₃ h₂ h₁
  refine wpAny_bind ?_
  · unfold Builtin.SmallTypes.ownedTupleIsFree
    refine wpAny_bind (wpAny_field he₄ rfl (x := .none) rfl (wpAny_pure ?_))
    simp only [if_true]
    refine wpAny_bind (wpAny_rule ?_)
    refine wpAny_bind (wpAny_field he₄ rfl (x := old) rfl ?_)
    refine wpAny_bind (wpAny_setField_rec he₄ (by simp) fun h₅ he₅ hs₅ => ?_)
    replace hs₅ : Heap.SameBut e h₄ h₅ := hs₅
    replace he₅ : IsEnum h₅ e it ((i : Int) + 1) x := he₅
    show wpAny _ _ (Builtin.SmallTypes.ownedTupleHandOut (.ref e) (.ref hp.objs.size) >>= _) _ _ ⟨h₅, g, d, tk + 1, os⟩
    refine wpAny_bind ?_
    · unfold Builtin.SmallTypes.ownedTupleHandOut
      refine wpAny_bind (wpAny_setField_rec he₅ (by simp) fun h₆ he₆ hs₆ => ?_)
      replace hs₆ : Heap.SameBut e h₅ h₆ := hs₆
      replace he₆ : IsEnumOut h₆ e it ((i : Int) + 1) x hp.objs.size := he₆
      refine wpAny_setField_rec he₆ (by simp) fun h₇ he₇ hs₇ => ?_
      replace hs₇ : Heap.SameBut e h₆ h₇ := hs₇
      replace he₇ : IsEnumOut h₇ e it ((i : Int) + 1) x hp.objs.size := he₇
      refine wpAny_bind (wpAny_letGo (wpAny_pure ⟨_, rfl, hQ h₇ he₇ ?_ ?_ ?_ ?_⟩))
      · exact ((hit₄.extBut hs₅.extBut (Ne.symm hne)).extBut hs₆.extBut (Ne.symm hne)).extBut hs₇.extBut (Ne.symm hne)
      · exact hs₇.extBut _ _ (Nat.ne_of_gt hel) (hs₆.extBut _ _ (Nat.ne_of_gt hel) (hs₅.extBut _ _ (Nat.ne_of_gt hel) ht₄))
      · rw [hs₇.1, hs₆.1, hs₅.1, hz₄]
      · exact fun b o hbe hbi hb => hs₇.extBut b o hbe (hs₆.extBut b o hbe (hs₅.extBut b o hbe (hk₄ b o hbe hbi hb)))

theorem pyNext_enumT_item {e it l : Addr} {i : Nat} {items : Array Value} {x old : Value} {Q : Option Value → Shared → Prop}
    (he : IsEnum s.heap e it i old) (hit : s.heap.IsTupleIter it l i) (hl : s.heap.IsTuple l items) (hx : items[i]? = some x) (hne : e ≠ it)
    (hQ : ∀ h', IsEnumOut h' e it ((i : Int) + 1) x s.heap.objs.size → h'.IsTupleIter it l (i + 1) →
      h'.get? s.heap.objs.size = some { cls := .type "tuple", data := .seq #[.int i s.toks, x] } → h'.objs.size = s.heap.objs.size + 1 →
      (∀ b o, b ≠ e → b ≠ it → s.heap.get? b = some o → h'.get? b = some o) → Q (some (.ref s.heap.objs.size)) { s with heap := h', toks := s.toks + 1 }) :
    wpAny (model prog w) A (pyNext (.ref e)) Q E s := by
  have hT : s.TypeIs (.ref e) "enumerate" := ⟨_, he, rfl⟩
  unfold pyNext
  exact wpAny_bind (wpAny_attempt (wpAny_callSpecial?_slot (name := Str.ofString "__next__") hT F.slot_enumerate_next
    (wpAny_call_entry F.slot_enumerate_next hT F.entry_enumerate_next
      (enumT_next_item he hit hl hx hne fun h' a b c d k => wpAny_pure (hQ h' a b c d k)) (F.args_enumerate_next_1 _))))

theorem pyNext_enumT_end {e it l : Addr} {i : Nat} {items : Array Value} {old : Value} {Q : Option Value → Shared → Prop} (hh : A.handled = none)
    (he : IsEnum s.heap e it i old) (hit : s.heap.IsTupleIter it l i) (hl : s.heap.IsTuple l items) (hx : items[i]? = none)
    (hQ : ∀ h', Heap.ExtBut it s.heap h' → Q none { s with heap := h' }) : wpAny (model prog w) A (pyNext (.ref e)) Q E s := by
  have hT : s.TypeIs (.ref e) "enumerate" := ⟨_, he, rfl⟩
  unfold pyNext
  refine wpAny_bind (wpAny_attempt (wpAny_callSpecial?_slot (name := Str.ofString "__next__") hT F.slot_enumerate_next
    (wpAny_call_entry F.slot_enumerate_next hT F.entry_enumerate_next ?_ (F.args_enumerate_next_1 _))))
  show wpAny _ _ (field (.ref e) 2 >>= _) _ _ _
  refine wpAny_bind (wpAny_field he rfl (x := .ref it) rfl ?_)
  refine wpAny_bind (RZ.nextOf_tuple_end hh hit hl hx fun h' x he' hx' => ?_)
  obtain ⟨o, ho, hc⟩ := hx'
  refine wpAny_bind (wpAny_isInstance (T := "StopIteration") (b := true) ⟨o, ho, hc⟩ isSubtype_stop ?_)
  exact wpAny_pure (hQ _ he')
end
end EvE

set_option Elab.async false
set_option linter.all false
set_option maxRecDepth 100000
set_option maxHeartbeats 1000000
/-! EvZ0: zip of two tuples, strict, at the library's level (turned from HandS.Zip0). -/
namespace EvZ
open PySem RZ
open PySem.Sem (wp)
abbrev IsZipS (h : Heap) (z TI TO : Addr) (f0 : Value) : Prop :=
  h.get? z = some { cls := .type "zip", dict := none, data := .fields #[f0, .bool false, .bool true, .ref TI, .ref TO], slots := #[] }
section
variable {prog : Program} {w : World} {A : Around} {E : Value → Shared → Prop} {s : Shared}
theorem nextOrEnd_item {it l : Addr} {i : Nat} {items} {x : Value} {Q : Option Value → Shared → Prop} (hit : s.heap.IsTupleIter it l i)
    (hl : s.heap.IsTuple l items) (hx : items[i]? = some x)
    (hQ : ∀ h', h'.IsTupleIter it l (i + 1) → Heap.SameBut it s.heap h' → Q (some x) { s with heap := h' }) :
    wpAny (model prog w) A (Builtin.SmallTypes.nextOrEnd (.ref it)) Q E s := by
  unfold Builtin.SmallTypes.nextOrEnd
  exact wpAny_bind (wpAny_attempt (RZ.nextOf_tuple_item hit hl hx fun h' a b => wpAny_pure (hQ h' a b)))
theorem nextOrEnd_end {it l : Addr} {i : Nat} {items} {Q : Option Value → Shared → Prop} (hh : A.handled = none)
    (hit : s.heap.IsTupleIter it l i) (hl : s.heap.IsTuple l items) (hx : items[i]? = none)
    (hQ : ∀ h', Heap.ExtBut it s.heap h' → Q none { s with heap := h' }) :
    wpAny (model prog w) A (Builtin.SmallTypes.nextOrEnd (.ref it)) Q E s := by
  unfold Builtin.SmallTypes.nextOrEnd
  refine wpAny_bind (wpAny_attempt (RZ.nextOf_tuple_end hh hit hl hx fun h' e he hx' => ?_))
  obtain ⟨o, ho, hc⟩ := hx'
  refine wpAny_bind (wpAny_isInstance (T := "StopIteration") (b := true) ⟨o, ho, hc⟩ isSubtype_stop ?_)
  exact wpAny_pure (hQ _ he)
theorem zipS_next_item {z TI TO i1 i2 l1 l2 : Addr} {k1 k2 : Nat} {xs ys : Array Value} {x y a b : Value} {Q : Value → Shared → Prop} (D : ZipApart z TI TO i1 i2 l1 l2)
    (hz : IsZipS s.heap z TI TO .none) (hTI : IsPair s.heap TI (.ref i1) (.ref i2)) (hTO : IsPair s.heap TO a b)
    (h1 : s.heap.IsTupleIter i1 l1 k1) (h2 : s.heap.IsTupleIter i2 l2 k2) (hl1 : s.heap.IsTuple l1 xs) (hl2 : s.heap.IsTuple l2 ys) (hx : xs[k1]? = some x) (hy : ys[k2]? = some y)
    (hQ : ∀ h', IsZipS h' z TI TO (rawInt s.heap.objs.size) → IsPair h' TO x y → h'.IsTupleIter i1 l1 (k1 + 1) → h'.IsTupleIter i2 l2 (k2 + 1) → IsPair h' s.heap.objs.size x y → h'.objs.size = s.heap.objs.size + 1 →
      (∀ c o, c ≠ z → c ≠ TO → c ≠ i1 → c ≠ i2 → s.heap.get? c = some o → h'.get? c = some o) → Q (.ref s.heap.objs.size) { s with heap := h' }) :
    wpAny (model prog w) A (Builtin.«zip.__next__» ⟨[.ref z], []⟩) (fun fin s' => ∃ v, fin = .done (.ret v) ∧ Q v s') E s := by
  show wpAny _ _ (field (.ref z) 2 >>= _) _ _ _
  refine wpAny_bind (wpAny_field hz rfl (x := .bool true) rfl ?_)
  show wpAny _ _ (field (.ref z) 3 >>= _) _ _ _
  refine wpAny_bind (wpAny_field hz rfl (x := .ref TI) rfl ?_)
  refine wpAny_bind (wpAny_seqItems hTI rfl ?_)
  show wpAny _ _ (Builtin.SmallTypes.ownedTupleIsFree (.ref z) >>= _) _ _ _
  refine wpAny_bind ?_
  unfold Builtin.SmallTypes.ownedTupleIsFree
  refine wpAny_bind (wpAny_field hz rfl (x := .none) rfl (wpAny_pure ?_))
  simp only [if_true]
  refine wpAny_bind (wpAny_rule ?_)
  refine wpAny_bind (wpAny_field hz rfl (x := .ref TO) rfl ?_)
  refine wpAny_bind (wpAny_setField_rec hz (by simp) fun h₁ hz₁ hs₁ => ?_)
  replace hz₁ : IsZipS h₁ z TI TO .ellipsis := hz₁
  refine wpAny_bind ?_
  simp only [List.zipIdx_cons, List.zipIdx_nil, List.forIn_cons, List.forIn_nil]

  refine wpAny_bind (wpAny_bind (wpAny_onRaise ?_))
  show wpAny _ _ (Builtin.SmallTypes.nextOrEnd (.ref i1)) _ _ _
  refine (nextOrEnd_item (h1.extBut hs₁.extBut D.i1z) (hl1.extBut hs₁.extBut D.l1z) hx fun h₂ h1₂ hs₂ => ?_)
  have hTO₂ : IsPair h₂ TO a b := hs₂.extBut _ _ D.TOi1 (hs₁.extBut _ _ D.TOz hTO)
  refine wpAny_bind (wpAny_seqItems hTO₂ rfl ?_)
  refine wpAny_bind (wpAny_updateSeq_pair hTO₂ fun h₃ hTO₃ hs₃ => ?_)
  replace hTO₃ : IsPair h₃ TO x b := hTO₃
  refine wpAny_bind (wpAny_letGo (wpAny_pure ?_))

  refine wpAny_bind (wpAny_bind (wpAny_onRaise ?_))
  show wpAny _ _ (Builtin.SmallTypes.nextOrEnd (.ref i2)) _ _ _
  refine (nextOrEnd_item (((h2.extBut hs₁.extBut D.i2z).extBut hs₂.extBut D.i12.symm).extBut hs₃.extBut D.TOi2.symm)
    (((hl2.extBut hs₁.extBut D.l2z).extBut hs₂.extBut D.l2i1).extBut hs₃.extBut D.l2TO) hy fun h₄ h2₄ hs₄ => ?_)
  have hTO₄ : IsPair h₄ TO x b := hs₄.extBut _ _ D.TOi2 hTO₃
  refine wpAny_bind (wpAny_seqItems hTO₄ rfl ?_)
  refine wpAny_bind (wpAny_updateSeq_pair hTO₄ fun h₅ hTO₅ hs₅ => ?_)
  replace hTO₅ : IsPair h₅ TO x y := hTO₅
  refine wpAny_bind (wpAny_letGo (wpAny_pure (wpAny_pure ?_)))

  refine wpAny_bind (wpAny_seqItems hTO₅ rfl ?_)
  refine wpAny_bind (wpAny_newTuple ?_)
  have hsz : h₅.objs.size = s.heap.objs.size := by rw [hs₅.1, hs₄.1, hs₃.1, hs₂.1, hs₁.1]
  have hz₅ : IsZipS h₅ z TI TO .ellipsis := hs₅.extBut _ _ D.TOz.symm (hs₄.extBut _ _ D.i2z.symm (hs₃.extBut _ _ D.TOz.symm (hs₂.extBut _ _ D.i1z.symm hz₁)))
  have hk₅ : ∀ c o, c ≠ z → c ≠ TO → c ≠ i1 → c ≠ i2 → s.heap.get? c = some o → h₅.get? c = some o := fun c o c1 c2 c3 c4 e =>
    hs₅.extBut _ _ c2 (hs₄.extBut _ _ c4 (hs₃.extBut _ _ c2 (hs₂.extBut _ _ c3 (hs₁.extBut _ _ c1 e))))
  have h1₅ : h₅.IsTupleIter i1 l1 (k1 + 1) := ((h1₂.extBut hs₃.extBut D.TOi1.symm).extBut hs₄.extBut D.i12).extBut hs₅.extBut D.TOi1.symm
  have h2₅ : h₅.IsTupleIter i2 l2 (k2 + 1) := h2₄.extBut hs₅.extBut D.TOi2.symm
  have hzlt : z < h₅.objs.size := Heap.lt_size hz₅
  have hTOlt : TO < h₅.objs.size := Heap.lt_size hTO₅
  have hi1lt : i1 < h₅.objs.size := by obtain ⟨_, e, _⟩ := h1₅; exact Heap.lt_size e
  have hi2lt : i2 < h₅.objs.size := by obtain ⟨_, e, _⟩ := h2₅; exact Heap.lt_size e
  show wpAny _ _ (Builtin.SmallTypes.ownedTupleHandOut (.ref z) (.ref h₅.objs.size) >>= _) _ _ _
  refine wpAny_bind ?_
  unfold Builtin.SmallTypes.ownedTupleHandOut
  have hz₆ : IsZipS (h₅.push { cls := .type "tuple", data := .seq #[x, y] }) z TI TO .ellipsis := Heap.get?_push_of_some _ hz₅
  refine wpAny_bind (wpAny_setField_rec hz₆ (by simp) fun h₇ hz₇ hs₇ => ?_)
  replace hz₇ : IsZipS h₇ z TI TO (rawInt h₅.objs.size) := hz₇
  refine wpAny_setField_rec hz₇ (by simp) fun h₈ hz₈ hs₈ => ?_
  replace hz₈ : IsZipS h₈ z TI TO (rawInt h₅.objs.size) := hz₈
  have up : ∀ c o, c ≠ z → h₅.get? c = some o → h₈.get? c = some o := fun c o c1 e => hs₈.extBut _ _ c1 (hs₇.extBut _ _ c1 (Heap.get?_push_of_some _ e))
  have hT₈ : IsPair h₈ h₅.objs.size x y := hs₈.extBut _ _ (Nat.ne_of_gt hzlt) (hs₇.extBut _ _ (Nat.ne_of_gt hzlt) (Heap.get?_push_size _ rfl))
  have hz8 : h₈.objs.size = h₅.objs.size + 1 := by rw [hs₈.1, hs₇.1, Heap.size_push]
  rw [hsz] at hz₈ hT₈ hz8
  refine wpAny_pure ⟨_, rfl, ?_⟩
  show Q (.ref h₅.objs.size) _
  rw [hsz]
  exact hQ h₈ hz₈ (up _ _ D.TOz hTO₅) (h1₅.at fun o e => up _ o D.i1z e) (h2₅.at fun o e => up _ o D.i2z e) hT₈ hz8 fun c o c1 c2 c3 c4 e => up c o c1 (hk₅ c o c1 c2 c3 c4 e)

theorem zipS_next_end {z TI TO i1 i2 l1 l2 : Addr} {k1 k2 : Nat} {xs ys : Array Value} {a b : Value} {Q : Fin → Shared → Prop} (hh : A.handled = none) (D : ZipApart z TI TO i1 i2 l1 l2)
    (hz : IsZipS s.heap z TI TO .none) (hTI : IsPair s.heap TI (.ref i1) (.ref i2)) (hTO : IsPair s.heap TO a b)
    (h1 : s.heap.IsTupleIter i1 l1 k1) (h2 : s.heap.IsTupleIter i2 l2 k2) (hl1 : s.heap.IsTuple l1 xs) (hl2 : s.heap.IsTuple l2 ys) (hx : xs[k1]? = none) (hy : ys[k2]? = none)
    (hE : ∀ h' e, (∀ c o, c ≠ z → c ≠ TO → c ≠ i1 → c ≠ i2 → s.heap.get? c = some o → h'.get? c = some o) → (∃ o, h'.get? e = some o ∧ o.cls = .type "StopIteration") → E (.ref e) { s with heap := h' }) :
    wpAny (model prog w) A (Builtin.«zip.__next__» ⟨[.ref z], []⟩) Q E s := by
  show wpAny _ _ (field (.ref z) 2 >>= _) _ _ _
  refine wpAny_bind (wpAny_field hz rfl (x := .bool true) rfl ?_)
  show wpAny _ _ (field (.ref z) 3 >>= _) _ _ _
  refine wpAny_bind (wpAny_field hz rfl (x := .ref TI) rfl ?_)
  refine wpAny_bind (wpAny_seqItems hTI rfl ?_)
  show wpAny _ _ (Builtin.SmallTypes.ownedTupleIsFree (.ref z) >>= _) _ _ _
  refine wpAny_bind ?_
  unfold Builtin.SmallTypes.ownedTupleIsFree
  refine wpAny_bind (wpAny_field hz rfl (x := .none) rfl (wpAny_pure ?_))
  simp only [if_true]
  refine wpAny_bind (wpAny_rule ?_)
  refine wpAny_bind (wpAny_field hz rfl (x := .ref TO) rfl ?_)
  refine wpAny_bind (wpAny_setField_rec hz (by simp) fun h₁ hz₁ hs₁ => ?_)
  replace hz₁ : IsZipS h₁ z TI TO .ellipsis := hz₁
  refine wpAny_bind ?_
  simp only [List.zipIdx_cons, List.zipIdx_nil, List.forIn_cons, List.forIn_nil]
  refine wpAny_bind (wpAny_bind (wpAny_onRaise ?_))
  show wpAny _ _ (Builtin.SmallTypes.nextOrEnd (.ref i1)) _ _ _
  refine nextOrEnd_end hh (h1.extBut hs₁.extBut D.i1z) (hl1.extBut hs₁.extBut D.l1z) hx fun h₂ hs₂ => ?_
  have hz₂ : IsZipS h₂ z TI TO .ellipsis := hs₂ _ _ D.i1z.symm hz₁
  refine wpAny_bind (wpAny_setField_rec hz₂ (by simp) fun h₃ _ hs₃ => ?_)
  have hk3 : ∀ c o, c ≠ z → c ≠ TO → c ≠ i1 → c ≠ i2 → s.heap.get? c = some o → h₃.get? c = some o := fun c o c1 c2 c3 c4 e =>
    hs₃.extBut _ _ c1 (hs₂ _ _ c3 (hs₁.extBut _ _ c1 e))
  have h2₃ : h₃.IsTupleIter i2 l2 k2 := ((h2.extBut hs₁.extBut D.i2z).extBut hs₂ D.i12.symm).extBut hs₃.extBut D.i2z
  have hl2₃ : h₃.IsTuple l2 ys := ((hl2.extBut hs₁.extBut D.l2z).extBut hs₂ D.l2i1).extBut hs₃.extBut D.l2z
  refine wpAny_bind ?_
  show wpAny _ _ (forIn [(Value.ref i2, 1)] PUnit.unit (fun q _ => do
    if (← Builtin.SmallTypes.nextOrEnd q.1).isSome then
      rule "zip.__next__.longer"; raiseError "ValueError" s!"zip() argument {q.2 + 1} is longer than {if q.2 == 1 then "argument 1" else s!"arguments 1-{q.2}"}"
      pure (ForInStep.yield PUnit.unit)
    else pure (ForInStep.yield PUnit.unit)) >>= fun _ => (do rule "zip.__next__.all-ended"; Builtin.SmallTypes.stopIteration : Sem PySem.Fin)) _ _ _
  refine wpAny_bind ?_
  simp only [List.forIn_cons, List.forIn_nil]
  refine wpAny_bind (wpAny_bind (nextOrEnd_end hh h2₃ hl2₃ hy fun h₄ hs₄ => ?_))
  show wpAny _ _ (pure (ForInStep.yield PUnit.unit)) _ _ _
  refine wpAny_pure ?_
  show wpAny _ _ (pure PUnit.unit) _ _ _
  refine wpAny_pure (wpAny_bind (wpAny_rule ?_))
  unfold Builtin.SmallTypes.stopIteration
  refine wpAny_bind ?_
  simp only [newExc, newTuple]
  refine wpAny_bind (wpAny_newObj_type ?_ (by size_fits))
  refine wpAny_bind (m := firstArgMember _ _) (wpAny_of_eq (a := Value.none) (by first | rfl | (simp only [firstArgMember]; rfl)) ?_)
  refine wpAny_newObj_type ?_ (by size_fits)
  simp only [raiseNew]
  refine wpAny_bind (wpAny_handled ?_)
  first | rw [show A.in1.handled = none from hh] | rw [hh]
  refine wpAny_bind (wpAny_pure (wpAny_throw ?_))
  refine hE _ _ (fun c o c1 c2 c3 c4 e => ?_) ⟨_, Heap.get?_push_size _ rfl, rfl⟩
  exact Heap.get?_push_of_some _ (Heap.get?_push_of_some _ (hs₄ _ _ c4 (hk3 c o c1 c2 c3 c4 e)))
theorem pyNext_zipS_item {z TI TO i1 i2 l1 l2 : Addr} {k1 k2 : Nat} {xs ys : Array Value} {x y a b : Value} {Q : Option Value → Shared → Prop} (D : ZipApart z TI TO i1 i2 l1 l2)
    (hz : IsZipS s.heap z TI TO .none) (hTI : IsPair s.heap TI (.ref i1) (.ref i2)) (hTO : IsPair s.heap TO a b)
    (h1 : s.heap.IsTupleIter i1 l1 k1) (h2 : s.heap.IsTupleIter i2 l2 k2) (hl1 : s.heap.IsTuple l1 xs) (hl2 : s.heap.IsTuple l2 ys) (hx : xs[k1]? = some x) (hy : ys[k2]? = some y)
    (hQ : ∀ h', IsZipS h' z TI TO (rawInt s.heap.objs.size) → IsPair h' TO x y → h'.IsTupleIter i1 l1 (k1 + 1) → h'.IsTupleIter i2 l2 (k2 + 1) → IsPair h' s.heap.objs.size x y → h'.objs.size = s.heap.objs.size + 1 →
      (∀ c o, c ≠ z → c ≠ TO → c ≠ i1 → c ≠ i2 → s.heap.get? c = some o → h'.get? c = some o) → Q (some (.ref s.heap.objs.size)) { s with heap := h' }) :
    wpAny (model prog w) A (pyNext (.ref z)) Q E s := by
  have hT : s.TypeIs (.ref z) "zip" := ⟨_, hz, rfl⟩
  unfold pyNext
  exact wpAny_bind (wpAny_attempt (wpAny_callSpecial?_slot (name := Str.ofString "__next__") hT F.slot_zip_next
    (wpAny_call_entry F.slot_zip_next hT F.entry_zip_next
      (zipS_next_item D hz hTI hTO h1 h2 hl1 hl2 hx hy fun h' a1 a2 a3 a4 a5 a6 a7 => wpAny_pure (hQ h' a1 a2 a3 a4 a5 a6 a7)) (F.args_zip_next_1 _))))

theorem pyNext_zipS_end {z TI TO i1 i2 l1 l2 : Addr} {k1 k2 : Nat} {xs ys : Array Value} {a b : Value} {Q : Option Value → Shared → Prop} (hh : A.handled = none) (D : ZipApart z TI TO i1 i2 l1 l2)
    (hz : IsZipS s.heap z TI TO .none) (hTI : IsPair s.heap TI (.ref i1) (.ref i2)) (hTO : IsPair s.heap TO a b)
    (h1 : s.heap.IsTupleIter i1 l1 k1) (h2 : s.heap.IsTupleIter i2 l2 k2) (hl1 : s.heap.IsTuple l1 xs) (hl2 : s.heap.IsTuple l2 ys) (hx : xs[k1]? = none) (hy : ys[k2]? = none)
    (hQ : ∀ h', (∀ c o, c ≠ z → c ≠ TO → c ≠ i1 → c ≠ i2 → s.heap.get? c = some o → h'.get? c = some o) → Q none { s with heap := h' }) : wpAny (model prog w) A (pyNext (.ref z)) Q E s := by
  have hT : s.TypeIs (.ref z) "zip" := ⟨_, hz, rfl⟩
  unfold pyNext
  refine wpAny_bind (wpAny_attempt (wpAny_callSpecial?_slot (name := Str.ofString "__next__") hT F.slot_zip_next
    (wpAny_call_entry F.slot_zip_next hT F.entry_zip_next (zipS_next_end hh D hz hTI hTO h1 h2 hl1 hl2 hx hy fun h' e hk he => ?_) (F.args_zip_next_1 _))))
  obtain ⟨o, ho, hc⟩ := he
  refine wpAny_bind (wpAny_isInstance (T := "StopIteration") (b := true) ⟨o, ho, hc⟩ isSubtype_stop ?_)
  exact wpAny_pure (hQ _ hk)
theorem letOwnedTupleGo_zipS {elts : List Expr} {x1} {pos : Pos} {z TI TO T : Addr} {Q : Unit → Shared → Prop} (hz : IsZipS s.heap z TI TO (rawInt T))
    (hQ : ∀ h', IsZipS h' z TI TO .none → Heap.SameBut z s.heap h' → Q () { s with heap := h' }) :
    wpAny (model prog w) A (letOwnedTupleGo (.Tuple elts x1 pos) (.ref z) (.ref T)) Q E s := by
  unfold letOwnedTupleGo
  refine wpAny_bind (wpAny_load hz ?_)
  show wpAny _ _ (if (["enumerate", "zip", "dict_itemiterator", "dict_reverseitemiterator", "odict_iterator", "itertools.zip_longest", "itertools.pairwise"].contains "zip" &&
      (#[rawInt T, .bool false, .bool true, .ref TI, .ref TO] : Array Value)[0]? == some (rawInt T)) = true then _ else _) Q E s
  rw [if_pos (by simp)]
  refine wpAny_bind (wpAny_rule ?_)
  show wpAny _ _ (setField (.ref z) 0 .none) Q E s
  exact wpAny_setField_rec hz (by simp) fun h' hz' hs' => hQ h' hz' hs'
theorem pyIter_zipS {z TI TO : Addr} {f0 : Value} {Q : Value → Shared → Prop} (hz : IsZipS s.heap z TI TO f0) (h : Q (.ref z) s) : wpAny (model prog w) A (pyIter (.ref z)) Q E s := by
  have hT : s.TypeIs (.ref z) "zip" := ⟨_, hz, rfl⟩
  refine wpAny_pyIter_slot hT F.slot_zip_iter (wpAny_call_entry F.slot_zip_iter hT F.entry_zip_iter ?_ (F.args_zip_iter_1 _))
  show wpAny _ _ (ret (.ref z)) _ _ s
  exact wpAny_pure ⟨_, rfl, "zip", _, hT, F.slot_zip_next.lookup, h⟩
end
abbrev zipSH5 (h : Heap) (l1 l2 : Addr) : Heap := (zipTH4 h l1 l2).push { cls := .type "zip", data := .fields #[.none, .bool false, .bool true, .ref (zipTH2 h l1 l2).objs.size, .ref (zipTH3 h l1 l2).objs.size] }

theorem meets_zipS_new (l1 l2 : Addr) (xs ys : Array Value) :
    Meets (Builtin.«zip.__new__» ⟨[.type "zip", .ref l1, .ref l2], [(Str.ofString "strict", .bool true)]⟩) (fun _ R s => s.heap.IsTuple l1 xs ∧ s.heap.IsTuple l2 ys ∧
      R (.ok (.ret (.ref (zipTH4 s.heap l1 l2).objs.size))) { s with heap := zipSH5 s.heap l1 l2 }) :=
  .of_wp fun prog w A R s h => by
    obtain ⟨hp, g, d, tk, os⟩ := s; obtain ⟨hl1, hl2, h⟩ := h
    have hsub := sub_zip
    have hL1 : Heap.IsTuple (Shared.heap ⟨hp, g, d, tk, os⟩) l1 xs := hl1
    have hL2 : Heap.IsTuple (Shared.heap ⟨hp.push { cls := .type "tuple_iterator", data := .fields #[.ref l1, .int 0 0] }, g, d, tk, os⟩) l2 ys := Heap.IsTuple.push hl2 _
    have e1 : (Str.ofString "strict" == ("strict" : Str)) = true := by decide +kernel
    have e2 : (Str.ofString "strict" != ("strict" : Str)) = false := by decide +kernel
    wp_walk using wpAny_pyIter_tuple hL1, wpAny_pyIter_tuple hL2
    exact ⟨_, rfl, h⟩

section
variable {prog : Program} {w : World} {A : Around} {E : Value → Shared → Prop} {s : Shared}
theorem call_zipS {l1 l2 : Addr} {xs ys : Array Value} {Q : Value → Shared → Prop} (hl1 : s.heap.IsTuple l1 xs) (hl2 : s.heap.IsTuple l2 ys)
    (h : ∀ h', IsZipS h' (s.heap.objs.size + 4) (s.heap.objs.size + 2) (s.heap.objs.size + 3) .none → IsPair h' (s.heap.objs.size + 2) (.ref s.heap.objs.size) (.ref (s.heap.objs.size + 1)) →
      IsPair h' (s.heap.objs.size + 3) .none .none → h'.IsTupleIter s.heap.objs.size l1 0 → h'.IsTupleIter (s.heap.objs.size + 1) l2 0 → h'.objs.size = s.heap.objs.size + 5 →
      (∀ c o, s.heap.get? c = some o → h'.get? c = some o) → Q (.ref (s.heap.objs.size + 4)) { s with heap := h' }) :
    wpAny (model prog w) A (call (.type "zip") [.ref l1, .ref l2] [(Str.ofString "strict", .bool true)]) Q E s := by
  refine callType_newKw F.called_zip (by decide) (by kernel_rfl) (by kernel_rfl) (fun obj => by unfold argsOk; kernel_rfl) F.entry_zip_new
    (meets_zipS_new l1 l2 xs ys) ⟨hl1, hl2, ?_⟩
  have z1 : (zipTH1 s.heap l1).objs.size = s.heap.objs.size + 1 := Heap.size_push ..
  have z2 : (zipTH2 s.heap l1 l2).objs.size = s.heap.objs.size + 2 := by rw [Heap.size_push, z1]
  have z3 : (zipTH3 s.heap l1 l2).objs.size = s.heap.objs.size + 3 := by rw [Heap.size_push, z2]
  have z4 : (zipTH4 s.heap l1 l2).objs.size = s.heap.objs.size + 4 := by rw [Heap.size_push, z3]
  have z5 : (zipSH5 s.heap l1 l2).objs.size = s.heap.objs.size + 5 := by rw [Heap.size_push, z4]
  have g5 : (zipSH5 s.heap l1 l2).get? (zipTH4 s.heap l1 l2).objs.size = some _ := Heap.get?_push_size _ rfl
  have g4 : (zipSH5 s.heap l1 l2).get? (zipTH3 s.heap l1 l2).objs.size = some _ := Heap.get?_push_of_some _ (Heap.get?_push_size _ rfl)
  have g3 : (zipSH5 s.heap l1 l2).get? (zipTH2 s.heap l1 l2).objs.size = some _ := Heap.get?_push_of_some _ (Heap.get?_push_of_some _ (Heap.get?_push_size _ rfl))
  have g2 : (zipSH5 s.heap l1 l2).get? (zipTH1 s.heap l1).objs.size = some _ := Heap.get?_push_of_some _ (Heap.get?_push_of_some _ (Heap.get?_push_of_some _ (Heap.get?_push_size _ rfl)))
  have g1 : (zipSH5 s.heap l1 l2).get? s.heap.objs.size = some _ := Heap.get?_push_of_some _ (Heap.get?_push_of_some _ (Heap.get?_push_of_some _ (Heap.get?_push_of_some _ (Heap.get?_push_size _ rfl))))
  show _ ∧ _
  rw [z2, z3, z4] at g5
  rw [z1, z2] at g3
  rw [z3] at g4
  rw [z1] at g2
  rw [z4]
  exact ⟨⟨_, g5, rfl⟩, h _ g5 g3 g4 ⟨_, g1, rfl, rfl⟩ ⟨_, g2, rfl, rfl⟩ z5 fun c o x =>
    Heap.get?_push_of_some _ (Heap.get?_push_of_some _ (Heap.get?_push_of_some _ (Heap.get?_push_of_some _ (Heap.get?_push_of_some _ x))))⟩
end
end EvZ

set_option Elab.async false
set_option linter.all false
set_option maxRecDepth 100000
/-! EvE: enumerate, zip. The turns are turned from HandS.Iter and HandS.Zip. -/
namespace Ev
open PySem PySem.Spec PyProof.Rows L2 RZ
/-- the tuple at a, each item in a new pair behind its number -/
def IteT (K : PySem.W.Frag) (a : Addr) : It :=
  ⟨fun i H => ∃ (xs : List V) (x : V), SqT K H a xs ∧ xs[i]? = some x, fun i H v H' => ∃ T x, v = .ref T ∧ H T = none ∧ H' = upd H T (.tup [.int (i : Nat), x]) ∧ ∀ xs, SqT K H a xs → xs[i]? = some x, fun i H => ∃ xs : List V, SqT K H a xs ∧ xs.length ≤ i⟩
theorem turn_enumT {P : Program} {w : World} {K : PySem.W.Frag} {elts : List Expr} {kk : Nat} {tpos : Pos} (a e it : Addr) :
    Turn P w K (.Tuple elts kk tpos) (IteT K a) [e, it] e (fun i h => (∃ old, IsEnum h e it ((i : Nat) : Int) old) ∧ h.IsTupleIter it a i ∧ e ≠ it) where
  mem := by simp
  obj := fun i h st b hb => by
    obtain ⟨⟨old, he⟩, ⟨o, ho, hc, hd⟩, _⟩ := st
    have e' : b = e ∨ b = it := by simpa using hb
    rcases e' with z | z
    · rw [z]; exact ⟨_, he, fun v q => nomatch q⟩
    · rw [z]; exact ⟨o, ho, fun v q => by rw [hd] at q; cases q⟩
  keep := fun i h h' st k => let ⟨⟨old, he⟩, hi, hne⟩ := st; ⟨⟨old, k e (by simp) _ he⟩, hi.at fun o q => k it (by simp) o q, hne⟩
  item := by
    intro X hP hw hK hc i pins s σ H E I hf st hg
    subst hP hw hK
    obtain ⟨⟨old, he⟩, hit, hne⟩ := st
    obtain ⟨xs, x, hq, hx⟩ := hg
    obtain ⟨its, rv, p, hz⟩ := I.tuple hq
    obtain ⟨u, hu, ru⟩ := rv.get hx
    have hel : e < s.heap.objs.size := Heap.lt_size he
    have hil : it < s.heap.objs.size := by obtain ⟨_, q, _⟩ := hit; exact Heap.lt_size q
    refine EvE.pyNext_enumT_item he hit p (x := u) (by simpa using hu) hne fun h' ho hit' hT hsz hk => ?_
    refine ⟨_, rfl, wpAny_letOwnedTupleGo_enum (s := { s with heap := h', toks := s.toks + 1 }) ho fun h'' he' sb => ?_⟩
    have hT2 : h''.get? s.heap.objs.size = some { cls := .type "tuple", data := .seq #[.int i s.toks, u] } := (sb.2 _ (Nat.ne_of_gt hel)).trans hT
    have new : ObjOk X.prog X.w (upd H s.heap.objs.size (.tup [.int (i : Nat), x])) h'' s.heap.objs.size (.tup [.int (i : Nat), x]) :=
      ⟨by show 2 ≤ sizeLine; decide, [.int i s.toks, u], .cons ⟨_, rfl⟩ (.cons ru .nil), ⟨_, hT2, rfl, _, rfl⟩⟩
    have I1 : Inv X pins σ (upd H s.heap.objs.size (.tup [.int (i : Nat), x])) { s with heap := h'', toks := s.toks + 1 } :=
      I.turnedNew (ch := [e, it]) (fun b ob hb q => (sb.2 b (fun z => hb (by simp [z]))).trans (hk b ob (fun z => hb (by simp [z])) (fun z => hb (by simp [z])) q)) hf (Nat.le_refl _) new
    refine ⟨.ref s.heap.objs.size, _, I1, rfl, ⟨_, x, rfl, I.hok.fresh (Nat.le_refl _), rfl, fun ys hy => by rw [I.tuple_inj hy hq]; exact hx⟩, ⟨⟨u, ?_⟩, hit'.at fun o q => (sb.2 it (Ne.symm hne)).trans q, hne⟩, fun b hb => ?_⟩
    · have e1 : ((i + 1 : Nat) : Int) = (i : Int) + 1 := by omega
      rw [e1]; exact he'
    · have hb' : b < s.heap.objs.size := by
        have e' : b = e ∨ b = it := by simpa using hb
        rcases e' with z | z
        · rw [z]; exact hel
        · rw [z]; exact hil
      rw [upd_ne (Nat.ne_of_lt hb')]
      exact (hf b hb).1
  done := by
    intro X hP hw hK hc i pins s σ H E I hf st hg
    subst hP hw hK
    obtain ⟨⟨old, he⟩, hit, hne⟩ := st
    obtain ⟨xs, hq, hx⟩ := hg
    obtain ⟨its, rv, p, hz⟩ := I.tuple hq
    obtain ⟨f0, f1, f2, f3, f4, f5⟩ := hf it (by simp)
    have hl := rv.length
    exact EvE.pyNext_enumT_end (I.ok.hd hc) he hit p (by simp; omega) fun h' eb => ⟨rfl, I.turned (t' := s.toks) (fun b o hb q => eb b o hb q) f0 f1 f3 f4 f5⟩
  self := fun A i s Q E st h => let ⟨⟨_, he⟩, _⟩ := st; wpAny_pyIter_enum he h

/-- zip of two tuples, strict -/
def ItzS (K : PySem.W.Frag) (a b : Addr) : It :=
  ⟨fun i H => ∃ (xs ys : List V) (x y : V), SqT K H a xs ∧ SqT K H b ys ∧ xs[i]? = some x ∧ ys[i]? = some y,
    fun i H v H' => ∃ T x y, v = .ref T ∧ H T = none ∧ H' = upd H T (.tup [x, y]) ∧ (∀ xs, SqT K H a xs → xs[i]? = some x) ∧ ∀ ys, SqT K H b ys → ys[i]? = some y,
    fun i H => ∃ xs ys : List V, SqT K H a xs ∧ SqT K H b ys ∧ (xs.length ≤ i ∧ ys.length ≤ i)⟩
theorem turn_zipS {P : Program} {w : World} {K : PySem.W.Frag} {elts : List Expr} {kk : Nat} {tpos : Pos} {a b z TI TO i1 i2 : Addr} (D : ZipApart z TI TO i1 i2 a b) :
    Turn P w K (.Tuple elts kk tpos) (ItzS K a b) [z, TI, TO, i1, i2] z (fun i h => EvZ.IsZipS h z TI TO .none ∧ IsPair h TI (.ref i1) (.ref i2) ∧ (∃ x y, IsPair h TO x y) ∧ h.IsTupleIter i1 a i ∧ h.IsTupleIter i2 b i) where
  mem := by simp
  obj := fun i h st c hc => by
    obtain ⟨hz, hTI, ⟨x, y, hTO⟩, ⟨o1, e1, _, d1⟩, ⟨o2, e2, _, d2⟩⟩ := st
    have e' : c = z ∨ c = TI ∨ c = TO ∨ c = i1 ∨ c = i2 := by simpa using hc
    rcases e' with q | q | q | q | q
    · rw [q]; exact ⟨_, hz, fun v q => nomatch q⟩
    · rw [q]; exact ⟨_, hTI, fun v q => nomatch q⟩
    · rw [q]; exact ⟨_, hTO, fun v q => nomatch q⟩
    · rw [q]; exact ⟨o1, e1, fun v q => by rw [d1] at q; cases q⟩
    · rw [q]; exact ⟨o2, e2, fun v q => by rw [d2] at q; cases q⟩
  keep := fun i h h' st k => by
    obtain ⟨hz, hTI, ⟨x, y, hTO⟩, h1, h2⟩ := st
    exact ⟨k z (by simp) _ hz, k TI (by simp) _ hTI, ⟨x, y, k TO (by simp) _ hTO⟩, h1.at fun o q => k i1 (by simp) o q, h2.at fun o q => k i2 (by simp) o q⟩
  item := by
    intro X hP hw hK hc i pins s σ H E I hf st hg
    subst hP hw hK
    obtain ⟨hz, hTI, ⟨x0, y0, hTO⟩, h1, h2⟩ := st
    obtain ⟨xs, ys, x, y, hqx, hqy, hx, hy⟩ := hg
    obtain ⟨its, rv, p, _⟩ := I.tuple hqx
    obtain ⟨its2, rv2, p2, _⟩ := I.tuple hqy
    obtain ⟨u, hu, ru⟩ := rv.get hx
    obtain ⟨u2, hu2, ru2⟩ := rv2.get hy
    have hzl : z < s.heap.objs.size := Heap.lt_size hz
    refine EvZ.pyNext_zipS_item D hz hTI hTO h1 h2 p p2 (x := u) (y := u2) (by simpa using hu) (by simpa using hu2) fun h' z' TO' h1' h2' hT hsz hk => ?_
    refine ⟨_, rfl, EvZ.letOwnedTupleGo_zipS (s := { s with heap := h' }) z' fun h'' z'' sb => ?_⟩
    have hT2 : h''.get? s.heap.objs.size = some { cls := .type "tuple", data := .seq #[u, u2] } := (sb.2 _ (Nat.ne_of_gt hzl)).trans hT
    have new : ObjOk X.prog X.w (upd H s.heap.objs.size (.tup [x, y])) h'' s.heap.objs.size (.tup [x, y]) :=
      ⟨by show 2 ≤ sizeLine; decide, [u, u2], .cons ru (.cons ru2 .nil), ⟨_, hT2, rfl, _, rfl⟩⟩
    have I1 : Inv X pins σ (upd H s.heap.objs.size (.tup [x, y])) { s with heap := h'' } :=
      I.turnedNew (t' := s.toks) (ch := [z, TI, TO, i1, i2]) (fun c o hb q => (sb.2 c (fun q' => hb (by simp [q']))).trans (hk c o (fun q' => hb (by simp [q'])) (fun q' => hb (by simp [q'])) (fun q' => hb (by simp [q'])) (fun q' => hb (by simp [q'])) q)) hf (Nat.le_refl _) new
    refine ⟨.ref s.heap.objs.size, _, I1, rfl, ⟨_, x, y, rfl, I.hok.fresh (Nat.le_refl _), rfl, fun l hl => by rw [I.tuple_inj hl hqx]; exact hx, fun l hl => by rw [I.tuple_inj hl hqy]; exact hy⟩, ⟨z'', ?_, ⟨u, u2, ?_⟩, ?_, ?_⟩, fun c hcm => ?_⟩
    · exact (sb.2 _ D.TIz).trans (hk _ _ D.TIz D.TITO D.TIi1 D.TIi2 hTI)
    · exact (sb.2 _ D.TOz).trans TO'
    · exact h1'.at fun o q => (sb.2 _ D.i1z).trans q
    · exact h2'.at fun o q => (sb.2 _ D.i2z).trans q
    · have hlt : c < s.heap.objs.size := by
        have e' : c = z ∨ c = TI ∨ c = TO ∨ c = i1 ∨ c = i2 := by simpa using hcm
        rcases e' with q | q | q | q | q
        · rw [q]; exact hzl
        · rw [q]; exact Heap.lt_size hTI
        · rw [q]; exact Heap.lt_size hTO
        · rw [q]; obtain ⟨_, e1, _⟩ := h1; exact Heap.lt_size e1
        · rw [q]; obtain ⟨_, e2, _⟩ := h2; exact Heap.lt_size e2
      rw [upd_ne (Nat.ne_of_lt hlt)]
      exact (hf c hcm).1
  done := by
    intro X hP hw hK hc i pins s σ H E I hf st hg
    subst hP hw hK
    obtain ⟨hz, hTI, ⟨x0, y0, hTO⟩, h1, h2⟩ := st
    obtain ⟨xs, ys, hqx, hqy, hend⟩ := hg
    obtain ⟨its, rv, p, _⟩ := I.tuple hqx
    obtain ⟨its2, rv2, p2, _⟩ := I.tuple hqy
    have l1 := rv.length
    have l2 := rv2.length
    have he1 : its.toArray[i]? = none := by have := hend.1; simp; omega
    have he2 : its2.toArray[i]? = none := by have := hend.2; simp; omega
    exact EvZ.pyNext_zipS_end (I.ok.hd hc) D hz hTI hTO h1 h2 p p2 he1 he2 fun h' hk => ⟨rfl, I.turnedL (t' := s.toks) (ch := [z, TI, TO, i1, i2]) (fun c o hb q =>
      hk c o (fun q' => hb (by simp [q'])) (fun q' => hb (by simp [q'])) (fun q' => hb (by simp [q'])) (fun q' => hb (by simp [q'])) q) hf⟩
  self := fun A i s Q E st h => EvZ.pyIter_zipS st.1 h


def iEnumA (K : PySem.W.Frag) (ta : TA) : TI := fun σ H R => ta σ H fun vs H1 => ∃ a, vs = [.ref a] ∧ ((∃ xs, SqL K H1 a xs ∧ R (Ite K a) H1) ∨ (∃ xs, SqT K H1 a xs ∧ R (IteT K a) H1))
theorem pi_enumA {X : Cx} {e : Expr} {ta : TA} {p pos tpos : Pos} {elts : List Expr} {kk : Nat} (hg : Gl X "enumerate") (hm : X.mg "enumerate" = none) (ha : PA X [e] ta) (hs : starEach [e] X.env = [(false, eval e X.env)]) :
    PI X (.Tuple elts kk tpos) (.Call (.Name "enumerate" p) [e] [] pos) (iEnumA X.K ta) := by
  refine ⟨fun pins s σ H R I h => ?_⟩
  refine Call_ (ld_blt I hg hm boot_enumerate (PyProof.Rows.callWith_type1 (thn (ha.run pos pins s σ H _ I h) fun us s1 ⟨vs, H1, I1, r1, q1⟩ => ?_) hs rfl))
  obtain ⟨a, ex, q1⟩ := q1
  subst ex
  cases r1 with
  | cons r rr =>
    cases rr
    cases r
    have fr : ∀ b, b ∈ [s1.heap.objs.size + 1, s1.heap.objs.size] → FpOk X pins H1 b := fun b hb => by
      have e' : b = s1.heap.objs.size + 1 ∨ b = s1.heap.objs.size := by simpa using hb
      have hle : s1.heap.objs.size ≤ b := by
        rcases e' with z | z
        · rw [z]; exact Nat.le_add_right _ _
        · rw [z]; exact Nat.le_refl _
      exact I1.fpOk hle (I1.hok.fresh hle)
    rcases q1 with ⟨xs, hq, q⟩ | ⟨xs, hq, q⟩
    · obtain ⟨its, rv, p', hz⟩ := I1.list hq
      refine call_enumerate_list p'.isList fun h' he hit hsz hk => wpAny_pyIter_enum he ?_
      have I2 : Inv X pins σ H1 { s1 with heap := h' } := I1.kept (t' := s1.toks) hk
      exact ⟨s1.heap.objs.size + 1, [s1.heap.objs.size + 1, s1.heap.objs.size], _, _, H1, rfl, I2, turn_enum a (s1.heap.objs.size + 1) s1.heap.objs.size, ⟨⟨.none, he⟩, hit, Nat.succ_ne_self _⟩, fr, q⟩
    · obtain ⟨its, rv, p', hz⟩ := I1.tuple hq
      refine EvE.call_enumerate_tuple (show s1.heap.IsTuple a its.toArray from p') fun h' he hit hsz hk => wpAny_pyIter_enum he ?_
      have I2 : Inv X pins σ H1 { s1 with heap := h' } := I1.kept (t' := s1.toks) hk
      exact ⟨s1.heap.objs.size + 1, [s1.heap.objs.size + 1, s1.heap.objs.size], _, _, H1, rfl, I2, turn_enumT a (s1.heap.objs.size + 1) s1.heap.objs.size, ⟨⟨.none, he⟩, hit, Nat.succ_ne_self _⟩, fr, q⟩
theorem callWith_type_kw {env : PySem.Env} {M : Model} {A : Around} {E : Value → Shared → Prop} {s : Shared} {pos : Pos} {T : String} {e : Expr} {rest : List Expr} {kws : List Keyword} {Q : Value → Shared → Prop}
    (h : wpAny M A (spliced (backTo pos (starEach (e :: rest) env))) (fun vs s₁ => wpAny M A (evalAll ((backToKw pos (keywordEach kws env)).map (·.2)))
      (fun kvs s₂ => wpAny M A (call (.type T) vs (((backToKw pos (keywordEach kws env)).filterMap (·.1)).zip kvs)) Q E s₂) E s₁) E s)
    (he : backTo pos (starEach (e :: rest) env) = (false, eval e env) :: backTo pos (starEach rest env))
    (hplain : (backTo pos (starEach (e :: rest) env)).any (·.1) = false)
    (hall : (backToKw pos (keywordEach kws env)).all (·.1.isSome) = true)
    (hkw : (backToKw pos (keywordEach kws env)).any (·.1.isNone) = false) :
    wpAny M A (callWith pos (.type T) [] (backTo pos (starEach (e :: rest) env)) (backToKw pos (keywordEach kws env))) Q E s := by
  have h1 : wpAny M A (evalArgs (.type T) true (backTo pos (starEach (e :: rest) env)) (backToKw pos (keywordEach kws env))) (fun a s₁ => wpAny M A (call (.type T) ([] ++ a.pos) a.kw) Q E s₁) E s := by
    rw [he] at h ⊢
    exact evalArgs_kwB hall h
  unfold callWith
  refine wpAny_bind (wpAny_holding (wpAny_mono h1 (fun a s₁ h₁ => wpAny_bind (wpAny_standAt ?_)) fun _ _ x => x))
  simp only [hplain, hkw, Bool.or_false]
  refine wpAny_bind (wpAny_pure ?_)
  exact wpAny_bind (wpAny_mono h₁ (fun r s₂ hr => wpAny_bind (wpAny_holding (wpAny_point (wpAny_pure hr)))) fun _ _ x => x)
def iZipS (K : PySem.W.Frag) (ta tk : TA) : TI := fun σ H R => ta σ H fun vs H1 => tk σ H1 fun zs H2 => ∃ a b xs ys, vs = [.ref a, .ref b] ∧ zs = [.bl true] ∧ SqT K H2 a xs ∧ SqT K H2 b ys ∧ R (ItzS K a b) H2
theorem pi_zipS {X : Cx} {e e2 k : Expr} {ta tk : TA} {p pos tpos kp : Pos} {elts : List Expr} {kk : Nat} (hg : Gl X "zip") (hm : X.mg "zip" = none) (ha : PA X [e, e2] ta) (hk : PK X [⟨some "strict", k, kp⟩] tk)
    (hs : backTo pos (starEach [e, e2] X.env) = (false, eval e X.env) :: backTo pos (starEach [e2] X.env)) (hpl : (backTo pos (starEach [e, e2] X.env)).any (·.1) = false) :
    PI X (.Tuple elts kk tpos) (.Call (.Name "zip" p) [e, e2] [⟨some "strict", k, kp⟩] pos) (iZipS X.K ta tk) := by
  refine ⟨fun pins s σ H R I h => ?_⟩
  refine wpAny_Call_Name_kw (ld_blt I hg hm PyProof.Rows.boot_zip ?_)
  refine callWith_type_kw (thn (ha.run pos pins s σ H _ I h) fun us s1 ⟨vs, H1, I1, r1, q1⟩ => thn (hk.run pos pins s1 σ H1 _ I1 q1) fun ws s2 ⟨zs, H2, I2, r2, q2⟩ => ?_) hs hpl rfl rfl
  obtain ⟨a, b, xs, ys, ex, ez, hqx, hqy, q⟩ := q2
  subst ex
  subst ez
  obtain ⟨w1, rfl, e1⟩ := vals1 r2
  obtain rfl : w1 = Value.bool true := e1
  cases r1 with
  | cons r rr =>
    cases rr with
    | cons r' rr =>
      cases rr
      cases r
      cases r'
      have fresh5 : ∀ c, c ∈ [s2.heap.objs.size + 4, s2.heap.objs.size + 2, s2.heap.objs.size + 3, s2.heap.objs.size, s2.heap.objs.size + 1] → FpOk X pins H2 c := fun c hcm => by
        have e' : c = s2.heap.objs.size + 4 ∨ c = s2.heap.objs.size + 2 ∨ c = s2.heap.objs.size + 3 ∨ c = s2.heap.objs.size ∨ c = s2.heap.objs.size + 1 := by simpa using hcm
        have hle : s2.heap.objs.size ≤ c := by
          rcases e' with z | z | z | z | z
          · rw [z]; exact Nat.le_add_right _ _
          · rw [z]; exact Nat.le_add_right _ _
          · rw [z]; exact Nat.le_add_right _ _
          · rw [z]; exact Nat.le_refl _
          · rw [z]; exact Nat.le_add_right _ _
        exact I2.fpOk hle (I2.hok.fresh hle)
      obtain ⟨its, rv, p1, _⟩ := I2.tuple hqx
      obtain ⟨its2, rv2, p2, _⟩ := I2.tuple hqy
      obtain ⟨o1, ho1, _⟩ := id p1
      obtain ⟨o2, ho2, _⟩ := id p2
      show wpAny _ _ (call (.type "zip") [.ref a, .ref b] [(Str.ofString "strict", .bool true)]) _ _ _
      refine EvZ.call_zipS (show s2.heap.IsTuple a its.toArray from p1) (show s2.heap.IsTuple b its2.toArray from p2) fun h' hz hTI hTO h1 h2 hsz hk => EvZ.pyIter_zipS hz ?_
      have I3 : Inv X pins σ H2 { s2 with heap := h' } := I2.kept (t' := s2.toks) hk
      exact ⟨s2.heap.objs.size + 4, [s2.heap.objs.size + 4, s2.heap.objs.size + 2, s2.heap.objs.size + 3, s2.heap.objs.size, s2.heap.objs.size + 1], _, _, H2, rfl, I3, turn_zipS (PySem.W.ktu_apart s2.heap.objs.size a b (Heap.lt_size ho1) (Heap.lt_size ho2)), ⟨hz, hTI, ⟨_, _, hTO⟩, h1, h2⟩, fresh5, q⟩

/-! ### what the evaluator walks -/
section
variable {K : PySem.W.Frag} {cl : Nat → Addr} {fn : Nm}
theorem enumL_len : ∀ (j : Nat) (xs : List PV), (enumL j xs).length = xs.length
  | _, [] => rfl
  | j, _ :: xs => congrArg Nat.succ (enumL_len (j + 1) xs)
theorem enumL_get : ∀ (j : Nat) (xs : List PV) (i : Nat) (x : PV), xs[i]? = some x → (enumL j xs)[i]? = some (.tup [.int ((j + i : Nat) : Int), x])
  | _, [], _, _, e => by simp at e
  | j, y :: xs, 0, x, e => by simp at e; subst e; rfl
  | j, y :: xs, i + 1, x, e => by
    show (enumL (j + 1) xs)[i]? = _
    rw [enumL_get (j + 1) xs i x (by simpa using e), show j + 1 + i = j + (i + 1) by omega]
theorem zipL_len : ∀ (xs ys : List PV), (zipL xs ys).length = min xs.length ys.length
  | [], _ => by simp [zipL]
  | _ :: _, [] => by simp [zipL]
  | x :: xs, y :: ys => by
    show (zipL xs ys).length + 1 = _
    rw [zipL_len xs ys]
    simp only [List.length_cons]
    omega
theorem zipL_get : ∀ (xs ys : List PV) (i : Nat) (x y : PV), xs[i]? = some x → ys[i]? = some y → (zipL xs ys)[i]? = some (.tup [x, y])
  | [], _, _, _, _, e, _ => by simp at e
  | _ :: _, [], _, _, _, _, e => by simp at e
  | a :: xs, b :: ys, 0, x, y, e1, e2 => by simp at e1 e2; subst e1; subst e2; rfl
  | a :: xs, b :: ys, i + 1, x, y, e1, e2 => zipL_get xs ys i x y (by simpa using e1) (by simpa using e2)
theorem turns_drop {α : Type} (g : PV → α → Hh → R (Lp α)) {l : List PV} {i : Nat} {v : PV} (hp : l[i]? = some v) (a0 : α) (h : Hh) (w : Wi) (hw : w = .told l) (k : Nat) :
    turns g (l.drop i) a0 h = Ev.turn (g v a0 h) (rem w g k (i + 1)) := by
  subst hw
  rw [drop_cons hp]
  show (match g v a0 h with
    | .ok (.nx a1) h1 => turns g (l.drop (i + 1)) a1 h1
    | .ok (.br a1) h1 => .ok (.nx a1) h1
    | .ok (.rt v) h1 => .ok (.rt v) h1
    | .no n => .no n) = _
  unfold Ev.turn
  split <;> simp_all [rem]
/-- a new pair -/
theorem pair_new {m : List Addr} {H : Hp} {h : Hh} {T : Addr} {x y : V} {p q : PV} (r : HR K cl fn m H h) (hT : H T = none) (h1 : VR K m H p x) (h2 : VR K m H q y) :
    Grow m H m (upd H T (.tup [x, y])) ∧ HR K cl fn m (upd H T (.tup [x, y])) h ∧ VR K m (upd H T (.tup [x, y])) (.tup [p, q]) (.ref T) := by
  have g0 : Grow m H m (upd H T (.tup [x, y])) := Grow.upd_new0 hT
  exact ⟨g0, r.tup hT, .tup (.inl (.inl upd_same)) (.cons (h1.grow g0) (.cons (h2.grow g0) .nil))⟩
theorem wk_enT (a : Addr) (xs : List PV) : Wk K cl fn (IteT K a) (.told (enumL 0 xs)) (fun k i m H => k + i = xs.length ∧ ∃ vs, SqT K H a vs ∧ VRs K m H xs vs) where
  grow := fun k i m H m' H' ⟨e, vs, h1, h2⟩ g => ⟨e, vs, g.sqt h1, h2.gro g⟩
  turn := fun g k i a0 h m H ⟨e, vs, h1, h2⟩ r ok => by
    cases k with
    | zero =>
      refine .inl ⟨⟨vs, h1, by rw [← h2.length]; omega⟩, ?_⟩
      show turns g ((enumL 0 xs).drop i) a0 h = _
      rw [List.drop_eq_nil_of_le (by rw [enumL_len]; omega)]
      rfl
    | succ k =>
      have hi : i < xs.length := by omega
      have hp : xs[i]? = some xs[i] := List.getElem?_eq_getElem hi
      have hv : vs[i]? = some (vs[i]'(by rw [← h2.length]; exact hi)) := List.getElem?_eq_getElem _
      refine .inr ⟨k, rfl, ⟨by omega, vs, h1, h2⟩, ⟨vs, _, h1, hv⟩, .tup [.int ((0 + i : Nat) : Int), xs[i]], turns_drop g (enumL_get 0 xs i _ hp) a0 h _ rfl k, fun x H' ⟨T, y, ex, hT, eH, hy⟩ => ?_⟩
      subst ex eH
      rw [Nat.zero_add]
      exact pair_new r hT (.int _) (h2.at2 hp (hy vs h1))
theorem wk_enF (a : Addr) (xs : List PV) : Wk K cl fn (Ite K a) (.told (enumL 0 xs)) (fun k i m H => k + i = xs.length ∧ ∃ vs, SqF K H a vs ∧ VRs K m H xs vs) where
  grow := fun k i m H m' H' ⟨e, vs, h1, h2⟩ g => ⟨e, vs, g.sqf h1, h2.gro g⟩
  turn := fun g k i a0 h m H ⟨e, vs, h1, h2⟩ r ok => by
    cases k with
    | zero =>
      refine .inl ⟨⟨vs, h1.sql, by rw [← h2.length]; omega⟩, ?_⟩
      show turns g ((enumL 0 xs).drop i) a0 h = _
      rw [List.drop_eq_nil_of_le (by rw [enumL_len]; omega)]
      rfl
    | succ k =>
      have hi : i < xs.length := by omega
      have hp : xs[i]? = some xs[i] := List.getElem?_eq_getElem hi
      have hv : vs[i]? = some (vs[i]'(by rw [← h2.length]; exact hi)) := List.getElem?_eq_getElem _
      refine .inr ⟨k, rfl, ⟨by omega, vs, h1, h2⟩, ⟨vs, _, h1.sql, hv⟩, .tup [.int ((0 + i : Nat) : Int), xs[i]], turns_drop g (enumL_get 0 xs i _ hp) a0 h _ rfl k, fun x H' ⟨T, y, ex, hT, eH, hy⟩ => ?_⟩
      subst ex eH
      rw [Nat.zero_add]
      exact pair_new r hT (.int _) (h2.at2 hp (hy vs h1.sql))
theorem wk_enl (a : Addr) (n : Nat) : Wk K cl fn (Ite K a) (.enl n) (fun k i m H => m[n]? = some a) where
  grow := fun k i m H m' H' h g => g.at h
  turn := fun {α} g k i a0 h m H st r ok => by
    cases k with
    | zero => exact absurd rfl (ok 101)
    | succ k =>
      have ok : ∀ z, (match lsOf h (.ref n) with
        | some xs => match listAt xs i with
          | none => R.ok (Lp.nx a0) h
          | some v => match g (.tup [.int i, v]) a0 h with
            | .ok (.nx a1) h1 => frN (i + 1) fun j => turnsE g n k j a1 h1
            | .ok (.br a1) h1 => .ok (.nx a1) h1
            | .ok (.rt v) h1 => .ok (.rt v) h1
            | .no n => .no n
        | none => .no 102) ≠ .no z := ok
      show (_ ∧ (match lsOf h (.ref n) with
        | some xs => match listAt xs i with
          | none => R.ok (Lp.nx a0) h
          | some v => match g (.tup [.int i, v]) a0 h with
            | .ok (.nx a1) h1 => frN (i + 1) fun j => turnsE g n k j a1 h1
            | .ok (.br a1) h1 => .ok (.nx a1) h1
            | .ok (.rt v) h1 => .ok (.rt v) h1
            | .no n => .no n
        | none => .no 102) = _) ∨ ∃ k', _ ∧ _ ∧ _ ∧ ∃ v, (match lsOf h (.ref n) with
        | some xs => match listAt xs i with
          | none => R.ok (Lp.nx a0) h
          | some v => match g (.tup [.int i, v]) a0 h with
            | .ok (.nx a1) h1 => frN (i + 1) fun j => turnsE g n k j a1 h1
            | .ok (.br a1) h1 => .ok (.nx a1) h1
            | .ok (.rt v) h1 => .ok (.rt v) h1
            | .no n => .no n
        | none => .no 102) = _ ∧ _
      cases z : lsOf h (.ref n) with
      | none => rw [z] at ok; exact absurd rfl (ok 102)
      | some xs =>
        obtain ⟨b, vs, e0, h1, h2⟩ := lsOf_sql (x := .ref a) r (.ref st) z
        cases e0
        simp only []
        cases z2 : listAt xs i with
        | none =>
          refine .inl ⟨⟨vs, h1, ?_⟩, rfl⟩
          rw [listAt_get] at z2
          have := List.getElem?_eq_none_iff.mp z2
          rw [← h2.length]
          exact this
        | some p =>
          rw [listAt_get] at z2
          have hi : i < xs.length := (List.getElem?_eq_some_iff.mp z2).1
          have hv : vs[i]? = some (vs[i]'(by rw [← h2.length]; exact hi)) := List.getElem?_eq_getElem _
          refine .inr ⟨k, rfl, st, ⟨vs, _, h1, hv⟩, .tup [.int (i : Nat), p], ?_, fun x H' ⟨T, y, ex, hT, eH, hy⟩ => ?_⟩
          · simp only [frN_eq]
            unfold Ev.turn
            split <;> simp_all [rem]
          · subst ex eH
            exact pair_new r hT (.int _) (h2.at2 z2 (hy vs h1))
theorem wk_zpT (a b : Addr) (xs ys : List PV) : Wk K cl fn (ItzT K a b) (.told (zipL xs ys)) (fun k i m H => k + i = (zipL xs ys).length ∧ ∃ vs ws, SqT K H a vs ∧ SqT K H b ws ∧ VRs K m H xs vs ∧ VRs K m H ys ws) where
  grow := fun k i m H m' H' ⟨e, vs, ws, h1, h2, h3, h4⟩ g => ⟨e, vs, ws, g.sqt h1, g.sqt h2, h3.gro g, h4.gro g⟩
  turn := fun g k i a0 h m H ⟨e, vs, ws, h1, h2, h3, h4⟩ r ok => by
    have hl := zipL_len xs ys
    have l1 := h3.length
    have l2 := h4.length
    cases k with
    | zero =>
      refine .inl ⟨⟨vs, ws, h1, h2, by omega⟩, ?_⟩
      show turns g ((zipL xs ys).drop i) a0 h = _
      rw [List.drop_eq_nil_of_le (by omega)]
      rfl
    | succ k =>
      have hi : i < xs.length := by omega
      have hj : i < ys.length := by omega
      have hp : xs[i]? = some xs[i] := List.getElem?_eq_getElem hi
      have hq : ys[i]? = some ys[i] := List.getElem?_eq_getElem hj
      have hv : vs[i]? = some (vs[i]'(by omega)) := List.getElem?_eq_getElem _
      have hw : ws[i]? = some (ws[i]'(by omega)) := List.getElem?_eq_getElem _
      refine .inr ⟨k, rfl, ⟨by omega, vs, ws, h1, h2, h3, h4⟩, ⟨vs, ws, _, _, h1, h2, hv, hw⟩, .tup [xs[i], ys[i]], turns_drop g (zipL_get xs ys i _ _ hp hq) a0 h _ rfl k, fun x H' ⟨T, y, z, ex, hT, eH, hy, hz⟩ => ?_⟩
      subst ex eH
      exact pair_new r hT (h3.at2 hp (hy vs h1)) (h4.at2 hq (hz ws h2))
theorem wk_zpS (a b : Addr) (xs ys : List PV) (hxy : xs.length = ys.length) : Wk K cl fn (ItzS K a b) (.told (zipL xs ys)) (fun k i m H => k + i = (zipL xs ys).length ∧ ∃ vs ws, SqT K H a vs ∧ SqT K H b ws ∧ VRs K m H xs vs ∧ VRs K m H ys ws) where
  grow := fun k i m H m' H' ⟨e, vs, ws, h1, h2, h3, h4⟩ g => ⟨e, vs, ws, g.sqt h1, g.sqt h2, h3.gro g, h4.gro g⟩
  turn := fun g k i a0 h m H ⟨e, vs, ws, h1, h2, h3, h4⟩ r ok => by
    have hl := zipL_len xs ys
    have l1 := h3.length
    have l2 := h4.length
    cases k with
    | zero =>
      refine .inl ⟨⟨vs, ws, h1, h2, by omega, by omega⟩, ?_⟩
      show turns g ((zipL xs ys).drop i) a0 h = _
      rw [List.drop_eq_nil_of_le (by omega)]
      rfl
    | succ k =>
      have hi : i < xs.length := by omega
      have hj : i < ys.length := by omega
      have hp : xs[i]? = some xs[i] := List.getElem?_eq_getElem hi
      have hq : ys[i]? = some ys[i] := List.getElem?_eq_getElem hj
      have hv : vs[i]? = some (vs[i]'(by omega)) := List.getElem?_eq_getElem _
      have hw : ws[i]? = some (ws[i]'(by omega)) := List.getElem?_eq_getElem _
      refine .inr ⟨k, rfl, ⟨by omega, vs, ws, h1, h2, h3, h4⟩, ⟨vs, ws, _, _, h1, h2, hv, hw⟩, .tup [xs[i], ys[i]], turns_drop g (zipL_get xs ys i _ _ hp hq) a0 h _ rfl k, fun x H' ⟨T, y, z, ex, hT, eH, hy, hz⟩ => ?_⟩
      subst ex eH
      exact pair_new r hT (h3.at2 hp (hy vs h1)) (h4.at2 hq (hz ws h2))
end
section
variable {X : Cx} {cl : Nat → Addr} {fn : Nm} {pos : Pos}
theorem pi_enumC {p tpos : Pos} {elts : List Expr} {kk : Nat} {a : Expr} {f : Ee} (hg : Gl X "enumerate") (hm : X.mg "enumerate" = none) (hs : isStar a = false) (ha : PE X a (cE X.K cl fn f)) :
    PI X (.Tuple elts kk tpos) (.Call (.Name "enumerate" p) [a] [] pos) (cI X.K cl fn ⟨itEnum f⟩) := by
  refine (pi_enumA hg hm (pa_consC (cl := cl) (fn := fn) hs ha pa_nilC) (star_no hs)).of fun σ H Rr ⟨m, env, h, e, r, k⟩ => ?_
  have k : (match (match f.run env h with
    | .ok v h1 => match v with
      | .tup xs => R.ok (Wi.told (enumL 0 xs)) h1
      | .fro xs => .ok (.told (enumL 0 xs)) h1
      | .ref n => match h1.get n with
        | some (.lst _) => .ok (.enl n) h1
        | _ => .no 106
      | _ => .no 106
    | .no n => .no n) with
    | .ok w h1 => ∀ m1 H1 J, Grow m H m1 H1 → HR X.K cl fn m1 H1 h1 → WkOk X.K cl fn J w m1 H1 → Rr J H1
    | .no _ => False) := k
  cases z : f.run env h with
  | no n => rw [z] at k; exact k.elim
  | ok v h1 =>
    rw [z] at k
    have zl : evL [f] env h = .ok [v] h1 := by
      show (match f.run env h with
        | .ok v h1 => match evL [] env h1 with
          | .ok vs h2 => R.ok (v :: vs) h2
          | .no n => .no n
        | .no n => .no n) = _
      rw [z]; rfl
    refine cL.bind e r (fun vs' h1' z' m1 H1 xs g r1 e1 q => ?_) (fun n z' => by rw [zl] at z'; cases z')
    rw [zl] at z'; cases z'
    cases q with
    | cons q q2 =>
      cases q2
      cases v with
      | tup xs =>
        obtain ⟨a, vs, rfl, h2, h3⟩ := q.tup_inv
        exact ⟨a, rfl, .inr ⟨vs, h2, k m1 H1 _ g r1 ⟨_, wk_enT a xs, by show (enumL 0 xs).length + 0 = _; rw [enumL_len]; rfl, vs, h2, h3⟩⟩⟩
      | fro xs =>
        obtain ⟨a, vs, rfl, h2, h3⟩ := q.fro_inv
        exact ⟨a, rfl, .inl ⟨vs, h2.sql, k m1 H1 _ g r1 ⟨_, wk_enF a xs, by show (enumL 0 xs).length + 0 = _; rw [enumL_len]; rfl, vs, h2, h3⟩⟩⟩
      | ref n =>
        have k : (match (match h1.get n with
          | some (.lst _) => R.ok (Wi.enl n) h1
          | _ => .no 106) with
          | .ok w h1 => ∀ m1 H1 J, Grow m H m1 H1 → HR X.K cl fn m1 H1 h1 → WkOk X.K cl fn J w m1 H1 → Rr J H1
          | .no _ => False) := k
        obtain ⟨a, rfl, ha⟩ := q.ref_inv
        cases z2 : h1.get n with
        | none => rw [z2] at k; exact k.elim
        | some o =>
          rw [z2] at k
          cases o with
          | lst xs =>
            obtain ⟨vs, h2, h3⟩ := r1.lst z2 ha
            exact ⟨a, rfl, .inl ⟨vs, SqL.of h2, k m1 H1 _ g r1 ⟨_, wk_enl a n, ha⟩⟩⟩
          | _ => exact (show False from k).elim
      | _ => exact (show False from k).elim
/-- what zip walks, seen from behind -/
theorem itZip_ok {f f2 : Ee} {st : Bool} {env : Env} {h : Hh} {w : Wi} {h2 : Hh} (e : itZip f f2 st env h = .ok w h2) : ∃ xs ys, evL [f, f2] env h = .ok [.tup xs, .tup ys] h2 ∧ w = .told (zipL xs ys) ∧ (st = true → xs.length = ys.length) := by
  have e : (match f.run env h with
    | .ok v h1 => match f2.run env h1 with
      | .ok w h2 => match v, w with
        | .tup xs, .tup ys => match !st || Nat.beq xs.length ys.length with
          | true => R.ok (Wi.told (zipL xs ys)) h2
          | false => .no 107
        | _, _ => .no 107
      | .no n => .no n
    | .no n => .no n) = .ok w h2 := e
  cases z : f.run env h with
  | no n => rw [z] at e; cases e
  | ok v h1 =>
    rw [z] at e
    have e : (match f2.run env h1 with
      | .ok w h2 => match v, w with
        | .tup xs, .tup ys => match !st || Nat.beq xs.length ys.length with
          | true => R.ok (Wi.told (zipL xs ys)) h2
          | false => .no 107
        | _, _ => .no 107
      | .no n => .no n) = .ok w h2 := e
    cases z2 : f2.run env h1 with
    | no n => rw [z2] at e; cases e
    | ok w2 h3 =>
      rw [z2] at e
      have zl : evL [f, f2] env h = .ok [v, w2] h3 := by
        show (match f.run env h with
          | .ok v h1 => match (match f2.run env h1 with
            | .ok v h1 => match evL [] env h1 with
              | .ok vs h2 => R.ok (v :: vs) h2
              | .no n => .no n
            | .no n => .no n) with
            | .ok vs h2 => R.ok (v :: vs) h2
            | .no n => .no n
          | .no n => .no n) = _
        rw [z]
        simp only []
        rw [z2]
        rfl
      cases v with
      | tup xs =>
        cases w2 with
        | tup ys =>
          have e : (match !st || Nat.beq xs.length ys.length with
            | true => R.ok (Wi.told (zipL xs ys)) h3
            | false => .no 107) = .ok w h2 := e
          cases zb : !st || Nat.beq xs.length ys.length with
          | false => rw [zb] at e; cases e
          | true =>
            rw [zb] at e
            cases e
            refine ⟨xs, ys, zl, rfl, fun hst => ?_⟩
            subst hst
            exact Nat.eq_of_beq_eq_true (by simpa using zb)
        | _ => cases e
      | _ => cases w2 <;> cases e
theorem pi_zipC {p tpos : Pos} {elts : List Expr} {kk : Nat} {a b : Expr} {f f2 : Ee} (hg : Gl X "zip") (hm : X.mg "zip" = none) (hs : isStar a = false) (hs2 : isStar b = false) (ha : PE X a (cE X.K cl fn f)) (hb : PE X b (cE X.K cl fn f2)) :
    PI X (.Tuple elts kk tpos) (.Call (.Name "zip" p) [a, b] [] pos) (cI X.K cl fn ⟨itZip f f2 false⟩) := by
  have hss : starEach [a, b] X.env = (false, eval a X.env) :: starEach [b] X.env := star_no hs
  have hs1 : starEach [b] X.env = (false, eval b X.env) :: starEach [] X.env := star_no hs2
  refine (pi_zipA hg hm (pa_consC (cl := cl) (fn := fn) hs ha (pa_consC hs2 hb pa_nilC)) hss (by rw [hs1]; rfl)).of fun σ H Rr ⟨m, env, h, e, r, k⟩ => ?_
  have k : (match itZip f f2 false env h with
    | .ok w h1 => ∀ m1 H1 J, Grow m H m1 H1 → HR X.K cl fn m1 H1 h1 → WkOk X.K cl fn J w m1 H1 → Rr J H1
    | .no _ => False) := k
  cases z : itZip f f2 false env h with
  | no n => rw [z] at k; exact k.elim
  | ok w h2 =>
    rw [z] at k
    obtain ⟨xs, ys, zl, rfl, _⟩ := itZip_ok z
    refine cL.bind e r (fun vs' h1' z' m1 H1 xs g r1 e1 q => ?_) (fun n z' => by rw [zl] at z'; cases z')
    rw [zl] at z'; cases z'
    cases q with
    | cons q1 q2 =>
      cases q2 with
      | cons q2 q3 =>
        cases q3
        obtain ⟨a, vs, rfl, h2, h3⟩ := q1.tup_inv
        obtain ⟨b, ws, rfl, h4, h5⟩ := q2.tup_inv
        exact ⟨a, b, vs, ws, rfl, .inr ⟨h2, h4, k m1 H1 _ g r1 ⟨_, wk_zpT a b _ _, by show (zipL _ _).length + 0 = _; rfl, vs, ws, h2, h4, h3, h5⟩⟩⟩
theorem pi_zipSC {p tpos kp cp : Pos} {elts : List Expr} {kk j : Nat} {a b : Expr} {f f2 : Ee} (hg : Gl X "zip") (hm : X.mg "zip" = none) (hs : isStar a = false) (hs2 : isStar b = false) (ha : PE X a (cE X.K cl fn f)) (hb : PE X b (cE X.K cl fn f2)) :
    PI X (.Tuple elts kk tpos) (.Call (.Name "zip" p) [a, b] [⟨some "strict", .Constant (.bool true) j cp, kp⟩] pos) (cI X.K cl fn ⟨itZip f f2 true⟩) := by
  have hss : starEach [a, b] X.env = (false, eval a X.env) :: starEach [b] X.env := star_no hs
  have hs1 : starEach [b] X.env = (false, eval b X.env) :: starEach [] X.env := star_no hs2
  refine (pi_zipS hg hm (pa_consC (cl := cl) (fn := fn) hs ha (pa_consC hs2 hb pa_nilC)) (pk_cons pe_bl pk_nil) (by rw [hss, hs1]; rfl) (by rw [hss, hs1]; rfl)).of fun σ H Rr ⟨m, env, h, e, r, k⟩ => ?_
  have k : (match itZip f f2 true env h with
    | .ok w h1 => ∀ m1 H1 J, Grow m H m1 H1 → HR X.K cl fn m1 H1 h1 → WkOk X.K cl fn J w m1 H1 → Rr J H1
    | .no _ => False) := k
  cases z : itZip f f2 true env h with
  | no n => rw [z] at k; exact k.elim
  | ok w h2 =>
    rw [z] at k
    obtain ⟨xs, ys, zl, rfl, hl⟩ := itZip_ok z
    refine cL.bind e r (fun vs' h1' z' m1 H1 xs g r1 e1 q => ?_) (fun n z' => by rw [zl] at z'; cases z')
    rw [zl] at z'; cases z'
    cases q with
    | cons q1 q2 =>
      cases q2 with
      | cons q2 q3 =>
        cases q3
        obtain ⟨a, vs, rfl, h2, h3⟩ := q1.tup_inv
        obtain ⟨b, ws, rfl, h4, h5⟩ := q2.tup_inv

        exact ⟨a, b, vs, ws, rfl, rfl, h2, h4, k m1 H1 _ g r1 ⟨_, wk_zpS a b _ _ (hl rfl), by show (zipL _ _).length + 0 = _; rfl, vs, ws, h2, h4, h3, h5⟩⟩
end
end Ev

set_option Elab.async false
set_option linter.all false
set_option maxRecDepth 100000
/-! Ev11: statements: loops, comprehensions, targets, blocks. -/
namespace Ev
open PySem PySem.Spec PyProof.Rows L2

section
variable {X : Cx} {cl : Nat → Addr} {fn : Nm} {pos : Pos}
theorem OkS.here {K : PySem.W.Frag} {m : List Addr} {H : Hp} {h : Hh} {e : Env} {σ : L2.St} {D : Ends} (k : OkS K cl fn (.ok (.nx e) h) m H D) (r : HR K cl fn m H h) (q : EnvR K m H e σ) : D.nx σ H := k m H (Grow.refl m H) r σ q
theorem ps_forC0 {tg it : Expr} {body : List Stmt} {g : Tg} {ei : Ei} {b : Es} (hp : PassesOwn (model X.prog X.w) X.A X.env X.xe) (hc : X.calm = true) (hi : PI X tg it (cI X.K cl fn ei)) (hg : PG X tg (cG X.K g)) (hb : PSs X body (cS X.K cl fn b)) (hfs : ∀ x, foldedSetIterable it X.env x = pure x) :
    PS X (.For tg it body [] pos) (cS X.K cl fn ⟨sFor0 g ei b⟩) := by
  refine (ps_for hp hc hi hg hb hfs).of fun D σ H ⟨m, env, h, e, r, k⟩ => ?_
  have k : OkS X.K cl fn (ofLp (match ei.run env h with
    | .ok w h1 => walk w (forTurn g b) env h1
    | .no n => .no n)) m H D := k
  cases z : ei.run env h with
  | no n => rw [z] at k; exact k.elim
  | ok w h1 =>
    rw [z] at k
    have k : OkS X.K cl fn (ofLp (walk w (forTurn g b) env h1)) m H D := k
    rw [rem_walk] at k
    refine ⟨m, env, h, e, r, ?_⟩
    rw [z]
    intro m1 H1 J g1 r1 ⟨SS, wk, st⟩
    refine ⟨fun i k σ H => ∃ m2 env2 h2, EnvR X.K m2 H env2 σ ∧ HR X.K cl fn m2 H h2 ∧ SS k i m2 H ∧ OkS X.K cl fn (ofLp (rem w (forTurn g b) k i env2 h2)) m2 H D, ⟨w.size, m1, env, h1, e.grow g1, r1, st, k.mono g1⟩, ?_⟩
    intro i kk σ2 H2 ⟨m2, env2, h2, e2, r2, st2, k2⟩
    have ok : ∀ n, rem w (forTurn g b) kk i env2 h2 ≠ .no n := fun n z => by rw [z] at k2; exact k2
    rcases wk.turn (forTurn g b) kk i env2 h2 m2 H2 st2 r2 ok with ⟨hs, he⟩ | ⟨k', ek, st3, hgo, v, he, hy⟩
    · rw [he] at k2
      exact .inl ⟨hs, OkS.here k2 r2 e2⟩
    · rw [he] at k2
      refine .inr ⟨hgo, fun σ H => ∃ m2 env2 h2, EnvR X.K m2 H env2 σ ∧ HR X.K cl fn m2 H h2 ∧ SS k' (i + 1) m2 H ∧ OkS X.K cl fn (ofLp (rem w (forTurn g b) k' (i + 1) env2 h2)) m2 H D, fun σ' H' w' => ⟨k', by omega, w'⟩, fun x H' yl => ?_⟩
      obtain ⟨g3, r3, q3⟩ := hy x H' yl
      refine ⟨m2, env2, v, e2.grow g3, q3, ?_⟩
      have k2 : OkS X.K cl fn (ofLp (turn (match stTg g v env2 with
        | some e2 => toLp (b.run e2 h2)
        | none => .no 154) (rem w (forTurn g b) k' (i + 1)))) m2 H2 D := k2
      cases zt : stTg g v env2 with
      | none => rw [zt] at k2; exact k2.elim
      | some e4 =>
        rw [zt] at k2
        intro σ4 q4 _
        refine ⟨m2, e4, h2, q4, r3, ?_⟩
        have k2 : OkS X.K cl fn (ofLp (turn (toLp (b.run e4 h2)) (rem w (forTurn g b) k' (i + 1)))) m2 H2 D := k2
        cases zb : b.run e4 h2 with
        | no n => rw [zb] at k2; exact k2.elim
        | ok f h5 =>
          rw [zb] at k2
          intro m5 H5 g5 r5
          have g6 := g3.trans g5
          cases f with
          | nx e5 => exact fun σ5 q5 => ⟨m5, e5, h5, q5, r5, wk.grow _ _ _ _ _ _ st3 g6.o, OkS.mono g6 k2⟩
          | ct e5 => exact fun σ5 q5 => ⟨m5, e5, h5, q5, r5, wk.grow _ _ _ _ _ _ st3 g6.o, OkS.mono g6 k2⟩
          | bk e5 => exact fun σ5 q5 => k2 m5 H5 g6 r5 σ5 q5
          | rt v5 => exact fun x5 q5 => k2 m5 H5 g6 r5 x5 q5
theorem ps_whileC {c : Expr} {body : List Stmt} {f : Et} {b : Es} (hp : PassesOwn (model X.prog X.w) X.A X.env X.xe) (hc : PT X c (cT X.K cl fn f)) (hb : PSs X body (cS X.K cl fn b)) : PS X (.While c body [] pos) (cS X.K cl fn ⟨sWhl f b turnsMax⟩) := by
  refine (ps_while hp hc hb).of fun D σ H ⟨m, env, h, e, r, k⟩ => ?_
  have k : OkS X.K cl fn (sWhl f b turnsMax env h) m H D := k
  refine ⟨fun d σ H => ∃ m env h, EnvR X.K m H env σ ∧ HR X.K cl fn m H h ∧ OkS X.K cl fn (sWhl f b d env h) m H D, ⟨turnsMax, m, env, h, e, r, k⟩, ?_⟩
  intro d σ H ⟨m, env, h, e, r, k⟩
  cases d with
  | zero => exact k.elim
  | succ d =>
    have k : OkS X.K cl fn (match f.run env h with
      | .ok k h1 => match k with
        | false => .ok (.nx env) h1
        | true => match toLp (b.run env h1) with
          | .ok r h2 => match r with
            | .nx e1 => sWhl f b d e1 h2
            | .br e1 => .ok (.nx e1) h2
            | .rt v => .ok (.rt v) h2
          | .no n => .no n
      | .no n => .no n) m H D := k
    cases z : f.run env h with
    | no n => rw [z] at k; exact k.elim
    | ok c h1 =>
      rw [z] at k
      refine cT.bind e r (fun v' h1' z' m1 H1 g1 r1 e1 => ?_) (fun n z' => by rw [z] at z'; cases z')
      rw [z] at z'; cases z'
      cases c with
      | false =>
        rw [if_neg (by simp)]
        exact OkS.here (OkS.mono g1 k) r1 e1
      | true =>
        rw [if_pos rfl]
        have k : OkS X.K cl fn (match toLp (b.run env h1) with
          | .ok r h2 => match r with
            | .nx e1 => sWhl f b d e1 h2
            | .br e1 => .ok (.nx e1) h2
            | .rt v => .ok (.rt v) h2
          | .no n => .no n) m H D := k
        refine ⟨fun σ H => ∃ m env h, EnvR X.K m H env σ ∧ HR X.K cl fn m H h ∧ OkS X.K cl fn (sWhl f b d env h) m H D, fun σ' H' w' => ⟨d, by omega, w'⟩, m1, env, h1, e1, r1, ?_⟩
        cases zb : b.run env h1 with
        | no n => rw [zb] at k; exact k.elim
        | ok fl h5 =>
          rw [zb] at k
          intro m5 H5 g5 r5
          have g6 := g1.trans g5
          cases fl with
          | nx e5 => exact fun σ5 q5 => ⟨m5, e5, h5, q5, r5, OkS.mono g6 k⟩
          | ct e5 => exact fun σ5 q5 => ⟨m5, e5, h5, q5, r5, OkS.mono g6 k⟩
          | bk e5 => exact fun σ5 q5 => k m5 H5 g6 r5 σ5 q5
          | rt v5 => exact fun x5 q5 => k m5 H5 g6 r5 x5 q5
/-! ### targets -/
theorem Only.refl (l : List Nat) (σ : L2.St) : Only l σ σ := ⟨rfl, fun _ _ => rfl⟩
theorem Only.trans {l l' : List Nat} {a b c : L2.St} (x : Only l a b) (y : Only l' b c) : Only (l ++ l') a c :=
  ⟨y.1.trans x.1, fun i hi => (y.2 i fun z => hi (List.mem_append_right _ z)).trans (x.2 i fun z => hi (List.mem_append_left _ z))⟩
theorem Only.set (i : Nat) (v : Option V) (σ : L2.St) : Only [i] σ (σ.set i v) :=
  ⟨List.length_set, fun j hj => List.getElem?_set_ne (fun e => hj (by simp [e]))⟩
theorem pg_nameC {i : Nat} {x : Str} (hN : X.N.Nodup) (hi : X.N[i]? = some x) (hx : Loc X.env.scope x) (hf : X.fn x = true ∨ X.env.scope.names.lookup x = some .local) : PG X (.Name x pos) (cG X.K (.var i)) := by
  refine (pg_name hN hi hx hf).of fun x σ H Q ⟨m, env, p, e, q, k⟩ => ?_
  exact k _ (e.set q i) (Only.set i _ σ)
def cGs (K : PySem.W.Frag) (gs : List Tg) : TGs := fun xs σ H Q => ∃ m env ps, EnvR K m H env σ ∧ VRs K m H ps xs ∧ (match stTgs gs ps env with
  | some env' => ∀ σ', EnvR K m H env' σ' → Only (Tg.slotss gs) σ σ' → Q σ' H
  | none => False)
theorem _root_.L2.PGs.of {X : Cx} {e : List Expr} {t t' : TGs} (h : PGs X e t) (w : ∀ x σ H Q, t' x σ H Q → t x σ H Q) : PGs X e t' := ⟨fun pins s σ H v u Q I r q => h.run pins s σ H v u Q I r (w v σ H Q q)⟩
theorem pgs_nilC : PGs X [] (cGs X.K []) := by
  refine pgs_nil.of fun xs σ H Q ⟨m, env, ps, e, q, k⟩ => ?_
  cases q with
  | nil => exact ⟨rfl, k σ e (Only.refl _ σ)⟩
  | cons _ _ => exact (show False from k).elim
theorem pgs_consC {e : Expr} {es : List Expr} {g : Tg} {gs : List Tg} (h1 : PG X e (cG X.K g)) (h2 : PGs X es (cGs X.K gs)) (hs : (assignEach (e :: es) X.env).map (·.2) = assign e X.env :: (assignEach es X.env).map (·.2)) : PGs X (e :: es) (cGs X.K (g :: gs)) := by
  refine (pgs_cons h1 h2 hs).of fun xs σ H Q ⟨m, env, ps, e, q, k⟩ => ?_
  cases q with
  | nil => exact (show False from k).elim
  | @cons p ps v vs q1 q2 =>
    refine ⟨v, vs, rfl, m, env, p, e, q1, ?_⟩
    have k : (match (match stTg g p env with
      | some env1 => stTgs gs ps env1
      | none => none) with
      | some env' => ∀ σ', EnvR X.K m H env' σ' → Only (g.slots ++ Tg.slotss gs) σ σ' → Q σ' H
      | none => False) := k
    cases z : stTg g p env with
    | none => rw [z] at k; exact k.elim
    | some env1 =>
      rw [z] at k
      intro σ1 e1 o1
      refine ⟨m, env1, ps, e1, q2, ?_⟩
      have k : (match stTgs gs ps env1 with
        | some env' => ∀ σ', EnvR X.K m H env' σ' → Only (g.slots ++ Tg.slotss gs) σ σ' → Q σ' H
        | none => False) := k
      cases z2 : stTgs gs ps env1 with
      | none => rw [z2] at k; exact k.elim
      | some env2 =>
        rw [z2] at k
        exact fun σ2 e2 o2 => k σ2 e2 (o1.trans o2)
theorem stTgs_length : ∀ {gs : List Tg} {ps : List PV} {env env' : Env}, stTgs gs ps env = some env' → ps.length = gs.length
  | [], [], _, _, _ => rfl
  | [], _ :: _, _, _, e => by cases e
  | _ :: _, [], _, _, e => by cases e
  | g :: gs, p :: ps, env, env', e => by
    have e : (match stTg g p env with
      | some env1 => stTgs gs ps env1
      | none => none) = some env' := e
    cases z : stTg g p env with
    | none => rw [z] at e; cases e
    | some env1 =>
      rw [z] at e
      exact congrArg Nat.succ (stTgs_length e)
theorem pg_tupC {es : List Expr} {k : Nat} {gs : List Tg} (hc : X.calm = true) (h : PGs X es (cGs X.K gs)) (hn : (assignEach es X.env).length = gs.length) (hst : (assignEach es X.env).findIdx? (·.1) = none) : PG X (.Tuple es k pos) (cG X.K (.tup gs)) := by
  refine (pg_tup hc h hn hst).of fun x σ H Q ⟨m, env, p, e, q, k⟩ => ?_
  cases p with
  | tup ps =>
    obtain ⟨a, vs, rfl, h1, h2⟩ := q.tup_inv
    have k : (match stTgs gs ps env with
      | some env' => ∀ σ', EnvR X.K m H env' σ' → Only (Tg.slotss gs) σ σ' → Q σ' H
      | none => False) := k
    refine ⟨a, vs, rfl, h1, ?_, m, env, ps, e, h2, k⟩
    rw [← h2.length]
    cases z : stTgs gs ps env with
    | none => rw [z] at k; exact k.elim
    | some env' => exact stTgs_length z
  | _ => exact (show False from k).elim
/-! ### statements -/
theorem ps_asgC {tg e : Expr} {f : Ee} {g : Tg} (he : PE X e (cE X.K cl fn f)) (hg : PG X tg (cG X.K g)) (hs : swapsWithSole [tg] e pos.line X.env = pure false) (hw : swappedStores [tg] e X.env = pure none) (h1 : (assignEach [tg] X.env).map (·.2) = [assign tg X.env]) :
    PS X (.Assign [tg] e pos) (cS X.K cl fn ⟨sAsg g f⟩) := by
  refine (ps_asg he hg hs hw h1).of fun D σ H ⟨m, env, h, e, r, k⟩ => ?_
  have k : OkS X.K cl fn (match f.run env h with
    | .ok v h1 => match stTg g v env with
      | some e1 => .ok (.nx e1) h1
      | none => .no 150
    | .no n => .no n) m H D := k
  cases z : f.run env h with
  | no n => rw [z] at k; exact k.elim
  | ok v h1 =>
    rw [z] at k
    have k : OkS X.K cl fn (match stTg g v env with
      | some e1 => .ok (.nx e1) h1
      | none => .no 150) m H D := k
    cases z2 : stTg g v env with
    | none => rw [z2] at k; exact k.elim
    | some env1 =>
      rw [z2] at k
      refine cE.bind e r (fun v' h1' z' m1 H1 x g1 r1 e1 q => ?_) (fun n z' => by rw [z] at z'; cases z')
      rw [z] at z'; cases z'
      refine ⟨m1, env, v, e1, q, ?_⟩
      rw [z2]
      exact fun σ' q' _ => OkS.here (OkS.mono g1 k) r1 q'
theorem ps_setC {i : Nat} {x : Str} {e : Expr} {f : Ee} {pos' : Pos} (hN : X.N.Nodup) (hi : X.N[i]? = some x) (hx : Loc X.env.scope x) (he : PE X e (cE X.K cl fn f)) (hs : swapsWith e (some (.Name x pos')) pos.line X.env = pure false) (hf : X.fn x = true ∨ X.env.scope.names.lookup x = some .local) :
    PS X (.Assign [.Name x pos'] e pos) (cS X.K cl fn ⟨sAsg (.var i) f⟩) := by
  refine (ps_set hN hi hx he hs hf).of fun D σ H ⟨m, env, h, e, r, k⟩ => ?_
  have k : OkS X.K cl fn (match f.run env h with
    | .ok v h1 => .ok (.nx (eset env i v)) h1
    | .no n => .no n) m H D := k
  cases z : f.run env h with
  | no n => rw [z] at k; exact k.elim
  | ok v h1 =>
    rw [z] at k
    refine cE.bind e r (fun v' h1' z' m1 H1 x g1 r1 e1 q => ?_) (fun n z' => by rw [z] at z'; cases z')
    rw [z] at z'; cases z'
    exact OkS.here (OkS.mono g1 k) r1 (e1.set q i)
theorem ps_exprC {e : Expr} {f : Ee} (he : PE X e (cE X.K cl fn f)) (hs : swapsWith e none pos.line X.env = pure false) : PS X (.Expr e pos) (cS X.K cl fn ⟨sExpr f⟩) := by
  refine (ps_expr he hs).of fun D σ H ⟨m, env, h, e, r, k⟩ => ?_
  have k : OkS X.K cl fn (match f.run env h with
    | .ok _ h1 => .ok (.nx env) h1
    | .no n => .no n) m H D := k
  cases z : f.run env h with
  | no n => rw [z] at k; exact k.elim
  | ok v h1 =>
    rw [z] at k
    refine cE.bind e r (fun v' h1' z' m1 H1 x g1 r1 e1 q => ?_) (fun n z' => by rw [z] at z'; cases z')
    rw [z] at z'; cases z'
    exact OkS.here (OkS.mono g1 k) r1 e1
theorem ps_retC {e : Expr} {f : Ee} (he : PE X e (cE X.K cl fn f)) : PS X (.Return (some e) pos) (cS X.K cl fn ⟨sRet f⟩) := by
  refine (ps_ret he).of fun D σ H ⟨m, env, h, e, r, k⟩ => ?_
  have k : OkS X.K cl fn (match f.run env h with
    | .ok v h1 => .ok (.rt v) h1
    | .no n => .no n) m H D := k
  cases z : f.run env h with
  | no n => rw [z] at k; exact k.elim
  | ok v h1 =>
    rw [z] at k
    refine cE.bind e r (fun v' h1' z' m1 H1 x g1 r1 e1 q => ?_) (fun n z' => by rw [z] at z'; cases z')
    rw [z] at z'; cases z'
    exact k m1 H1 g1 r1 x q
theorem ps_retNC : PS X (.Return none pos) (cS X.K cl fn ⟨fun _ h => .ok (.rt .non) h⟩) :=
  ps_retN.of fun D σ H ⟨m, env, h, e, r, k⟩ => (show OkS X.K cl fn (.ok (.rt .non) h) m H D from k) m H (Grow.refl m H) r .non .non
theorem ps_ifC {c : Expr} {a b : List Stmt} {f : Et} {fa fb : Es} (hc : PT X c (cT X.K cl fn f)) (ha : PSs X a (cS X.K cl fn fa)) (hb : PSs X b (cS X.K cl fn fb)) : PS X (.If c a b pos) (cS X.K cl fn ⟨sIf f fa fb⟩) := by
  refine (ps_if hc ha hb).of fun D σ H ⟨m, env, h, e, r, k⟩ => ?_
  have k : OkS X.K cl fn (match f.run env h with
    | .ok k h1 => match k with
      | true => fa.run env h1
      | false => fb.run env h1
    | .no n => .no n) m H D := k
  cases z : f.run env h with
  | no n => rw [z] at k; exact k.elim
  | ok c h1 =>
    rw [z] at k
    refine cT.bind e r (fun v' h1' z' m1 H1 g1 r1 e1 => ?_) (fun n z' => by rw [z] at z'; cases z')
    rw [z] at z'; cases z'
    cases c with
    | true => rw [if_pos rfl]; exact ⟨m1, env, h1, e1, r1, OkS.mono g1 k⟩
    | false => rw [if_neg (by simp)]; exact ⟨m1, env, h1, e1, r1, OkS.mono g1 k⟩
theorem ps_passC : PS X (.Pass pos) (cS X.K cl fn sNx) :=
  ps_pass.of fun D σ H ⟨m, env, h, e, r, k⟩ => OkS.here (show OkS X.K cl fn (.ok (.nx env) h) m H D from k) r e
theorem ps_docC {x : Str} {j : Nat} {p : Pos} : PS X (.Expr (.Constant (.str x) j p) pos) (cS X.K cl fn sNx) :=
  ps_doc.of fun D σ H ⟨m, env, h, e, r, k⟩ => OkS.here (show OkS X.K cl fn (.ok (.nx env) h) m H D from k) r e
theorem ps_brkC : PS X (.Break pos) (cS X.K cl fn ⟨fun env h => .ok (.bk env) h⟩) :=
  ps_break.of fun D σ H ⟨m, env, h, e, r, k⟩ => (show OkS X.K cl fn (.ok (.bk env) h) m H D from k) m H (Grow.refl m H) r σ e
theorem ps_contC : PS X (.Continue pos) (cS X.K cl fn ⟨fun env h => .ok (.ct env) h⟩) :=
  ps_continue.of fun D σ H ⟨m, env, h, e, r, k⟩ => (show OkS X.K cl fn (.ok (.ct env) h) m H D from k) m H (Grow.refl m H) r σ e
theorem ps_neverC {s : Stmt} {n : Nat} : PS X s (cS X.K cl fn ⟨fun _ _ => .no n⟩) :=
  ps_never.of fun D σ H ⟨m, env, h, e, r, k⟩ => (show False from k)
theorem pe_neverC {s : Expr} {n : Nat} : PE X s (cE X.K cl fn ⟨fun _ _ => .no n⟩) := ⟨fun pins s σ H Q I ⟨m, env, h, e, r, k⟩ => (show False from k).elim⟩
theorem pt_neverC {s : Expr} {n : Nat} : PT X s (cT X.K cl fn ⟨fun _ _ => .no n⟩) := ⟨fun pins s σ H Q I ⟨m, env, h, e, r, k⟩ => (show False from k).elim⟩
theorem pss_nilC : PSs X [] (cS X.K cl fn sNx) :=
  pss_nil.of fun D σ H ⟨m, env, h, e, r, k⟩ => OkS.here (show OkS X.K cl fn (.ok (.nx env) h) m H D from k) r e
theorem pss_consC {s : Stmt} {rest : List Stmt} {f g : Es} (h1 : PS X s (cS X.K cl fn f)) (h2 : PSs X rest (cS X.K cl fn g)) : PSs X (s :: rest) (cS X.K cl fn ⟨sSeq f g⟩) := by
  refine (pss_cons h1 h2).of fun D σ H ⟨m, env, h, e, r, k⟩ => ?_
  refine ⟨m, env, h, e, r, ?_⟩
  have k : OkS X.K cl fn (match f.run env h with
    | .ok f h1 => match f with
      | .nx e1 => g.run e1 h1
      | f => .ok f h1
    | .no n => .no n) m H D := k
  cases z : f.run env h with
  | no n => rw [z] at k; exact k.elim
  | ok fl h1 =>
    rw [z] at k
    intro m1 H1 g1 r1
    cases fl with
    | nx e1 => exact fun σ' q' => ⟨m1, e1, h1, q', r1, OkS.mono g1 k⟩
    | rt v => exact k m1 H1 g1 r1
    | bk e1 => exact k m1 H1 g1 r1
    | ct e1 => exact k m1 H1 g1 r1
/-! ### a dict that was walked is let go -/
theorem Grow.unl {m m1 : List Addr} {H H1 : Hp} (g : Grow m H m1 H1) {n : Nat} {a : Addr} {o : Obj} {u : HO} (ha : m1[n]? = some a) (e : H1 a = some (.frz o u)) (hf : ∀ o' u', H a ≠ some (.frz o' u')) : Grow m H m1 (upd H1 a u) := by
  refine ⟨g.pre, fun b xs q => ?_, fun b o' v q => ?_, fun b q => upd_kept (g.kept b q), fun b o' q hb => ?_⟩
  · have q1 := g.tups b xs q
    rw [upd_ne (fun z => by rw [z, e] at q1; cases q1)]; exact q1
  · have q1 := g.frzs b o' v q
    rw [upd_ne (fun z => by rw [z] at q; exact hf _ _ q)]; exact q1
  · have q1 := g.out b o' q hb
    rw [upd_ne (fun z => ?_)]
    · exact q1
    · rw [z] at q hb
      obtain ⟨r, er, fr⟩ := g.pre
      have hm : a ∈ m ++ r := er ▸ List.mem_of_getElem? ha
      rcases List.mem_append.mp hm with h | h
      · exact hb h
      · rw [fr a h] at q; cases q
/-- what stood there ahead was not locked -/
theorem not_lk {K : PySem.W.Frag} {m m1 : List Addr} {H H1 : Hp} {h : Hh} (r : HR K cl fn m H h) (g : Grow m H m1 H1) {n : Nat} {a : Addr} (ha : m1[n]? = some a) (q : (∃ d, h.get n = some (.dct d)) ∨ h.nx ≤ n) : ∀ o' u', H a ≠ some (.frz o' u') := by
  intro o' u' e
  obtain ⟨rr, er, fr⟩ := g.pre
  rcases q with ⟨d, q⟩ | q
  · obtain ⟨b, h1, kvs, u, h2, h3, h4⟩ := r.ob n _ q
    have hb := g.at h1
    rw [ha] at hb
    cases hb
    rw [e] at h3
    cases h3
    exact h4.mut.2.1 _ _ rfl
  · rw [er, List.getElem?_append_right (by rw [← r.nx]; exact q)] at ha
    rw [fr a (List.mem_of_getElem? ha)] at e
    cases e
/-- as it is, or with a dict let go -/
def ULk (H : Hp) (P : Hp → Prop) (H' : Hp) : Prop := P H' ∨ ∃ a o u, H' a = some (.frz o u) ∧ (∀ o' u', H a ≠ some (.frz o' u')) ∧ P (upd H' a u)
theorem ulk_run {pins : List (Addr × Obj)} {σ σ' : L2.St} {H H' : Hp} {s s' : Shared} {P : Hp → Prop} (I : L2.Inv X pins σ H s) (I' : L2.Inv X pins σ' H' s') (h : ULk H P H') : ∃ H2, L2.Inv X pins σ' H2 s' ∧ P H2 := by
  rcases h with h | ⟨a, o, u, e, hf, h⟩
  · exact ⟨H', I', h⟩
  · exact ⟨_, I'.unlock e (fun o' u' z => hf o' u' (I.base.frzs a o' u' z)), h⟩
theorem ps_unlock {st : Stmt} {t : TS} (h : PS X st t) : PS X st (fun D σ H => t ⟨fun σ' H' => ULk H (D.nx σ') H', fun v H' => ULk H (D.rt v) H', fun σ' H' => ULk H (D.bk σ') H', fun σ' H' => ULk H (D.ct σ') H'⟩ σ H) := by
  refine ⟨fun pins s σ H D I hw => ?_⟩
  refine thn (h.run pins s σ _ _ I hw) fun f s1 q => ?_
  cases f with
  | next => obtain ⟨σ', H', I2, q⟩ := q; obtain ⟨H2, I3, q⟩ := ulk_run I I2 q; exact ⟨σ', _, I3, q⟩
  | brk => obtain ⟨σ', H', I2, q⟩ := q; obtain ⟨H2, I3, q⟩ := ulk_run I I2 q; exact ⟨σ', _, I3, q⟩
  | cont => obtain ⟨σ', H', I2, q⟩ := q; obtain ⟨H2, I3, q⟩ := ulk_run I I2 q; exact ⟨σ', _, I3, q⟩
  | ret v => obtain ⟨x, σ', H', I2, r, q⟩ := q; obtain ⟨H2, I3, q⟩ := ulk_run I I2 q; exact ⟨x, σ', _, I3, r, q⟩
theorem pe_unlock {e : Expr} {t : TE} (h : PE X e t) : PE X e (fun σ H Q => t σ H fun v H' => ULk H (Q v) H') := by
  refine ⟨fun pins s σ H Q I hw => ?_⟩
  refine thn (h.run pins s σ _ _ I hw) fun v s1 ⟨x, H1, I2, r, q⟩ => ?_
  obtain ⟨H2, I3, q⟩ := ulk_run I I2 q
  exact ⟨x, _, I3, r, q⟩
/-- unl, seen from behind -/
theorem unl_cases {α : Type} {h0 : Hh} {w : Wi} {r : R α} {a : α} {h2 : Hh} (e : unl h0 w r = .ok a h2) : r = .ok a h2 ∨ ∃ n h1 d, r = .ok a h1 ∧ ((∃ d0, h0.get n = some (.dct d0)) ∨ h0.nx ≤ n) ∧ h1.get n = some (.dlk d) ∧ h2 = h1.put n (.dct d) := by
  cases w with
  | dct n xs =>
    cases r with
    | no c => cases e
    | ok a1 h1 =>
      have e : (match h0.get n with
        | some (.dlk _) => R.ok a1 h1
        | some (.dct _) => match h1.get n with
          | some (.dlk d) => .ok a1 (h1.put n (.dct d))
          | _ => .no 160
        | none => match Nat.ble h0.nx n, h1.get n with
          | true, some (.dlk d) => .ok a1 (h1.put n (.dct d))
          | _, _ => .no 160
        | _ => .no 160) = .ok a h2 := e
      cases z : h0.get n with
      | none =>
        rw [z] at e
        cases zb : Nat.ble h0.nx n with
        | false => rw [zb] at e; cases z1 : h1.get n <;> rw [z1] at e <;> cases e
        | true =>
          rw [zb] at e
          cases z1 : h1.get n with
          | none => rw [z1] at e; cases e
          | some ob =>
            rw [z1] at e
            cases ob with
            | dlk d => cases e; exact .inr ⟨n, h1, d, rfl, .inr (Nat.le_of_ble_eq_true zb), z1, rfl⟩
            | _ => cases e
      | some ob =>
        rw [z] at e
        cases ob with
        | dlk d => cases e; exact .inl rfl
        | dct d0 =>
          cases z1 : h1.get n with
          | none => simp only [z1] at e; cases e
          | some ob =>
            simp only [z1] at e
            cases ob with
            | dlk d => cases e; exact .inr ⟨n, h1, d, rfl, .inl ⟨d0, z⟩, z1, rfl⟩
            | _ => cases e
        | _ => cases e
  | _ => exact .inl e
/-- the heap let go of -/
theorem unl_step {K : PySem.W.Frag} {m m1 : List Addr} {H H1 : Hp} {h h1 : Hh} {n : Nat} {d : Dd} (r : HR K cl fn m H h) (g : Grow m H m1 H1) (r1 : HR K cl fn m1 H1 h1) (q : (∃ d0, h.get n = some (.dct d0)) ∨ h.nx ≤ n) (z : h1.get n = some (.dlk d)) :
    ∃ a o u, H1 a = some (.frz o u) ∧ (∀ o' u', H a ≠ some (.frz o' u')) ∧ Grow m H m1 (upd H1 a u) ∧ HR K cl fn m1 (upd H1 a u) (h1.put n (.dct d)) ∧ Grv m1 H1 m1 (upd H1 a u) := by
  obtain ⟨a, ha, _⟩ := r1.ob n _ z
  obtain ⟨o, u, e, mu, r2⟩ := r1.unl z ha
  have hf := not_lk r g ha q
  refine ⟨a, o, u, e, hf, g.unl ha e hf, r2, ?_⟩
  have nu : (∀ xs, u ≠ .lst xs) ∧ ∀ xs, u ≠ .tup xs := by
    obtain ⟨b, h1, kvs, o', u', h2, h3, h4⟩ := r1.ob n _ z
    rw [ha] at h1
    cases h1
    rw [e] at h3
    cases h3
    exact h4.mut.2.2
  refine ⟨fun _ _ q => q, fun b xs q => ?_, fun b o' xs q => ?_, fun b o' xs q => ?_⟩
  · rw [upd_ne (fun z => by rw [z, e] at q; cases q)]; exact q
  · rw [upd_ne (fun z => by rw [z, e] at q; cases q; exact nu.2 xs rfl)]; exact q
  · rw [upd_ne (fun z => by rw [z, e] at q; cases q; exact nu.1 xs rfl)]; exact q
theorem EnvR.grv {K : PySem.W.Frag} {m m' : List Addr} {H H' : Hp} (g : Grv m H m' H') {env : Env} {σ : L2.St} (r : EnvR K m H env σ) : EnvR K m' H' env σ := Paired.mapP r fun p v q => by
  cases p with
  | none => trivial
  | some p =>
    cases v with
    | none => exact q
    | some v => exact VR.grv g q
theorem ps_unlC {st : Stmt} {f f0 : Es} (hf : PS X st (cS X.K cl fn f0)) (hq : ∀ env h, (∃ w, f.run env h = unl h w (f0.run env h)) ∨ ∃ n, f.run env h = .no n) : PS X st (cS X.K cl fn f) := by
  refine (ps_unlock hf).of fun D σ H ⟨m, env, h, e, r, k⟩ => ⟨m, env, h, e, r, ?_⟩
  rcases hq env h with ⟨w, q⟩ | ⟨n, q⟩
  · rw [q] at k
    cases z : unl h w (f0.run env h) with
    | no n => rw [z] at k; exact k.elim
    | ok fl h2 =>
      rw [z] at k
      rcases unl_cases z with z2 | ⟨n, h1, d, z2, q1, q2, rfl⟩
      · rw [z2]
        intro m1 H1 g1 r1
        have k1 := k m1 H1 g1 r1
        cases fl with
        | nx e1 => exact fun σ1 q => .inl (k1 σ1 q)
        | rt v => exact fun x q => .inl (k1 x q)
        | bk e1 => exact fun σ1 q => .inl (k1 σ1 q)
        | ct e1 => exact fun σ1 q => .inl (k1 σ1 q)
      · rw [z2]
        intro m1 H1 g1 r1
        obtain ⟨a, o, u, e1, e2, g2, r2, gv⟩ := unl_step r g1 r1 q1 q2
        have k1 := k m1 _ g2 r2
        cases fl with
        | nx en => exact fun σ1 q => .inr ⟨a, o, u, e1, e2, k1 σ1 (EnvR.grv gv q)⟩
        | rt v => exact fun x q => .inr ⟨a, o, u, e1, e2, k1 x (VR.grv gv q)⟩
        | bk en => exact fun σ1 q => .inr ⟨a, o, u, e1, e2, k1 σ1 (EnvR.grv gv q)⟩
        | ct en => exact fun σ1 q => .inr ⟨a, o, u, e1, e2, k1 σ1 (EnvR.grv gv q)⟩
  · rw [q] at k; exact k.elim
theorem pe_unlC {ex : Expr} {f f0 : Ee} (hf : PE X ex (cE X.K cl fn f0)) (hq : ∀ env h, (∃ w, f.run env h = unl h w (f0.run env h)) ∨ ∃ n, f.run env h = .no n) : PE X ex (cE X.K cl fn f) := by
  refine (pe_unlock hf).of fun σ H Q ⟨m, env, h, e, r, k⟩ => ⟨m, env, h, e, r, ?_⟩
  rcases hq env h with ⟨w, q⟩ | ⟨n, q⟩
  · rw [q] at k
    cases z : unl h w (f0.run env h) with
    | no n => rw [z] at k; exact k.elim
    | ok v h2 =>
      rw [z] at k
      rcases unl_cases z with z2 | ⟨n, h1, d, z2, q1, q2, rfl⟩
      · rw [z2]
        exact fun m1 H1 x g1 r1 q => .inl (k m1 H1 x g1 r1 q)
      · rw [z2]
        intro m1 H1 x g1 r1 qv
        obtain ⟨a, o, u, e1, e2, g2, r2, gv⟩ := unl_step r g1 r1 q1 q2
        exact .inr ⟨a, o, u, e1, e2, k m1 _ x g2 r2 (VR.grv gv qv)⟩
  · rw [q] at k; exact k.elim
theorem unl_map {α β : Type} (h : Hh) (w : Wi) (r : R α) (f : α → β) : (match unl h w r with
    | .ok a h1 => R.ok (f a) h1
    | .no n => .no n) = unl h w (match r with
      | .ok a h1 => .ok (f a) h1
      | .no n => .no n) := by
  cases w with
  | dct n xs =>
    cases r with
    | no c => rfl
    | ok a h1 =>
      simp only [unl]
      cases h.get n with
      | none => cases Nat.ble h.nx n <;> (cases h1.get n with
        | none => rfl
        | some ob => cases ob <;> rfl)
      | some ob =>
        cases ob <;> first | rfl | (cases h1.get n with
        | none => rfl
        | some ob => cases ob <;> rfl)
  | _ => cases r <;> rfl
theorem sFor_unl {g : Tg} {ei : Ei} {b : Es} (env : Env) (h : Hh) : (∃ w, sFor g ei b env h = unl h w (sFor0 g ei b env h)) ∨ ∃ n, sFor g ei b env h = .no n := by
  unfold sFor
  cases z : ei.run env h with
  | no n => exact .inr ⟨n, rfl⟩
  | ok w h1 =>
    refine .inl ⟨w, ?_⟩
    show unl h w (sFor0 g ⟨fun _ _ => .ok w h1⟩ b env h) = _
    congr 1
    unfold sFor0 evIt
    rw [z]
theorem ps_forC {tg it : Expr} {body : List Stmt} {g : Tg} {ei : Ei} {b : Es} (hp : PassesOwn (model X.prog X.w) X.A X.env X.xe) (hc : X.calm = true) (hi : PI X tg it (cI X.K cl fn ei)) (hg : PG X tg (cG X.K g)) (hb : PSs X body (cS X.K cl fn b)) (hfs : ∀ x, foldedSetIterable it X.env x = pure x) :
    PS X (.For tg it body [] pos) (cS X.K cl fn ⟨sFor g ei b⟩) := ps_unlC (ps_forC0 hp hc hi hg hb hfs) fun env h => sFor_unl env h
end
end Ev

set_option Elab.async false
set_option linter.all false
set_option maxRecDepth 100000
/-! Ev12: comprehensions. -/
namespace Ev
open PySem PySem.Spec PyProof.Rows L2

theorem wipe_get {σ : L2.St} {i : Nat} : ∀ {vs : List Nat}, (L2.wipe σ vs)[i]? = if i ∈ vs ∧ i < σ.length then some none else σ[i]?
  | [] => by simp [L2.wipe]
  | v :: vs => by
    have ih := @wipe_get σ i vs
    show ((L2.wipe σ vs).set v none)[i]? = _
    by_cases e : v = i
    · subst e
      by_cases hl : v < σ.length
      · rw [List.getElem?_set_self (by rw [wipe_length]; exact hl), if_pos ⟨by simp, hl⟩]
      · rw [if_neg (fun z => hl z.2), List.getElem?_eq_none (by rw [List.length_set, wipe_length]; omega), List.getElem?_eq_none (by omega)]
    · rw [List.getElem?_set_ne e, ih]
      have : (i ∈ v :: vs) ↔ (i ∈ vs) := by
        constructor
        · intro z
          rcases List.mem_cons.mp z with z | z
          · exact absurd z.symm e
          · exact z
        · exact fun z => List.mem_cons_of_mem _ z
      simp only [this]
theorem wipe_only {l own : List Nat} {σ σ2 : L2.St} (o : Only l (L2.wipe σ own) σ2) (h : ∀ i ∈ l, i ∈ own) : L2.wipe σ2 own = L2.wipe σ own := by
  have hl : σ2.length = σ.length := o.1.trans (wipe_length σ own)
  apply List.ext_getElem?
  intro i
  rw [wipe_get, wipe_get, hl]
  by_cases c : i ∈ own ∧ i < σ.length
  · rw [if_pos c, if_pos c]
  · rw [if_neg c, if_neg c]
    by_cases hi : i ∈ l
    · have hio := h i hi
      have hlen : ¬ i < σ.length := fun z => c ⟨hio, z⟩
      rw [List.getElem?_eq_none (by omega), List.getElem?_eq_none (by omega)]
    · rw [o.2 i hi, wipe_get, if_neg c]
mutual
theorem slotsIn_ok {own : List Nat} : ∀ {t : Tg}, slotsIn own t = true → ∀ i ∈ t.slots, i ∈ own
  | .var j, e, i, hi => by
    have e : (own.any fun k => Nat.beq j k) = true := e
    have hi : i ∈ [j] := hi
    rw [List.mem_singleton] at hi
    obtain ⟨k, hk, ek⟩ := List.any_eq_true.mp e
    rw [hi, Nat.eq_of_beq_eq_true ek]
    exact hk
  | .tup ts, e, i, hi => slotsInL_ok (ts := ts) e i hi
theorem slotsInL_ok {own : List Nat} : ∀ {ts : List Tg}, slotsInL own ts = true → ∀ i ∈ Tg.slotss ts, i ∈ own
  | [], _, i, hi => by cases hi
  | t :: ts, e, i, hi => by
    have e : (slotsIn own t && slotsInL own ts) = true := e
    obtain ⟨e1, e2⟩ := Bool.and_eq_true_iff.mp e
    have hi : i ∈ t.slots ++ Tg.slotss ts := hi
    rcases List.mem_append.mp hi with z | z
    · exact slotsIn_ok e1 i z
    · exact slotsInL_ok e2 i z
end

section
variable {X : Cx} {cl : Nat → Addr} {fn : Nm} {pos : Pos}
/-- tests: none, or one -/
theorem pts_oneC {Xb : Cx} {c : Expr} {f : Et} (h : PT Xb c (cT Xb.K cl fn f)) : PTs Xb [c] (cTs Xb.K cl fn [f]) := by
  refine ⟨fun pins s σ H Q I ⟨m, env, hh, e, r, k⟩ => ?_⟩
  refine (pts_one h).run pins s σ H Q I ?_
  have k : OkT Xb.K cl fn (match f.run env hh with
    | .ok b h1 => match b with
      | true => evTs [] env h1
      | false => .ok false h1
    | .no n => .no n) m H Q := k
  refine ⟨m, env, hh, e, r, ?_⟩
  cases z : f.run env hh with
  | no n => rw [z] at k; exact k.elim
  | ok b h1 =>
    rw [z] at k
    cases b with
    | true => exact k
    | false => exact k
/-- the evaluation's end with the list made -/
noncomputable def lcEnd (r : R (Lp Acc)) : R PV := match r with
  | .ok r h1 => match r with
    | .nx a => newOb (.lst a.l.reverse) h1
    | _ => .no 111
  | .no n => .no n
theorem Grow.upd_out {m1 m : List Addr} {H1 H : Hp} {D : Addr} {o : HO} (g : Grow m1 H1 m H) (hD : H1 D = none) : Grow m1 H1 m (upd H D o) :=
  ⟨g.pre, fun a xs h => by rw [upd_ne (ne_of_none h hD)]; exact g.tups a xs h, fun a ob u h => by rw [upd_ne (ne_of_none h hD)]; exact g.frzs a ob u h, fun a h => upd_kept (g.kept a h), fun a ob h hm => by rw [upd_ne (ne_of_none h hD)]; exact g.out a ob h hm⟩
theorem Gro.upd_lst {m : List Addr} {H : Hp} {D : Addr} {vs : List V} {o : HO} (hD : H D = some (.lst vs)) : Gro m H m (upd H D o) :=
  ⟨fun _ _ h => h, fun a xs h => by rw [upd_ne (ne_of h hD (by intro z; cases z))]; exact h, fun a ob u h => by rw [upd_ne (ne_of h hD (by intro z; cases z))]; exact h⟩
/-- a list that is not numbered is changed -/
theorem HR.upd_out {K : PySem.W.Frag} {m : List Addr} {H : Hp} {h : Hh} {D : Addr} {vs : List V} {o : HO} (r : HR K cl fn m H h) (hm : D ∉ m) (hD : H D = some (.lst vs)) : HR K cl fn m (upd H D o) h := by
  refine ⟨r.nx, r.small, r.nd, r.free, fun n ob e => ?_, fun a ha => upd_kept (r.all a ha)⟩
  obtain ⟨a, h1, h2⟩ := r.ob n ob e
  have na : a ≠ D := fun z => hm (z ▸ List.mem_of_getElem? h1)
  exact ⟨a, h1, OR.keep (Gro.upd_lst hD) (upd_ne na) h2⟩
theorem lc_read {own : List Nat} {g : Tg} {ei : Ei} {fs : List Et} {f : Ee} (hs : ∀ i ∈ g.slots, i ∈ own) {σ : L2.St} {H : Hp} {Q : VK} (w : cE X.K cl fn ⟨evLc0 own g ei fs f⟩ σ H Q) :
    tLc (cI X.K cl fn ei) (cG X.K g) (cTs X.K cl fn fs) (cE X.K cl fn f) own σ H Q := by
  obtain ⟨m, env, h, e, r, k⟩ := w
  have k : OkE X.K cl fn (lcEnd (match ei.run env h with
    | .ok w h1 => walk w (lcTurn g fs f (wipeE env own)) ⟨0, []⟩ h1
    | .no n => .no n)) m H Q := k
  cases z : ei.run env h with
  | no n => rw [z] at k; exact k.elim
  | ok w h1 =>
    rw [z] at k
    have k : OkE X.K cl fn (lcEnd (walk w (lcTurn g fs f (wipeE env own)) ⟨0, []⟩ h1)) m H Q := k
    rw [rem_walk] at k
    refine ⟨m, env, h, e, r, ?_⟩
    rw [z]
    intro m1 H1 J g1 r1 ⟨SS, wk, st⟩ D hD
    have k1 := OkE.mono g1 k
    have hDm : D ∉ m1 := fun z => r1.all D z hD
    refine ⟨fun i kk H => ∃ m2 a h2 vs, Grow m1 H1 m2 H ∧ HR X.K cl fn m2 H h2 ∧ D ∉ m2 ∧ H D = some (.lst vs) ∧ VRs X.K m2 H a.l.reverse vs ∧ a.n = vs.length ∧ SS kk i m2 H ∧
      OkE X.K cl fn (lcEnd (rem w (lcTurn g fs f (wipeE env own)) kk i a h2)) m1 H1 Q, ⟨w.size, m1, ⟨0, []⟩, h1, [], Grow.upd_new0 hD, r1.tup hD, hDm, upd_same, .nil, rfl, wk.grow _ _ _ _ _ _ st (Grow.upd_new0 hD).o, k1⟩, ?_⟩
    intro i kk H2 ⟨m2, a, h2, vs, g2, r2, hD2, hH2, q2, hn2, st2, k2⟩
    have ok : ∀ n, rem w (lcTurn g fs f (wipeE env own)) kk i a h2 ≠ .no n := fun n z => by rw [z] at k2; exact k2
    rcases wk.turn (lcTurn g fs f (wipeE env own)) kk i a h2 m2 H2 st2 r2 ok with ⟨hst, he⟩ | ⟨k', ek, st3, hgo, v, he, hy⟩
    · rw [he] at k2
      have k2 : OkE X.K cl fn (newOb (.lst a.l.reverse) h2) m1 H1 Q := k2
      refine .inl ⟨hst, ?_⟩
      obtain ⟨hsm, e2⟩ := newOb_eq (R := fun _ => True) k2
      rw [e2] at k2
      have g3 : Gro m2 H2 (m2 ++ [D]) H2 := ⟨fun n b hb => by rw [List.getElem?_append_left (List.getElem?_eq_some_iff.mp hb).1]; exact hb, fun _ _ z => z, fun _ _ _ z => z⟩
      refine k2 (m2 ++ [D]) H2 (.ref D) ?_ ?_ (.ref ?_)
      · obtain ⟨rr, e3, f3⟩ := g2.pre
        refine ⟨⟨rr ++ [D], by rw [e3, List.append_assoc], fun b hb => ?_⟩, g2.tups, g2.frzs, g2.kept, g2.out⟩
        rcases List.mem_append.mp hb with z | z
        · exact f3 b z
        · rw [List.mem_singleton.mp z]; exact hD
      · refine ⟨by show h2.nx + 1 = _; rw [List.length_append, r2.nx]; rfl, by show h2.nx + 1 ≤ _; omega, ?_, fun n o' e => ?_, fun n o' e => ?_, fun b hb => ?_⟩
        · rw [List.nodup_append]
          exact ⟨r2.nd, (by simp), fun b hb c hc => by
            rw [List.mem_singleton] at hc
            rintro rfl
            exact hD2 (hc ▸ hb)⟩
        · rw [Hh.get_new (by omega)] at e
          show n < h2.nx + 1
          by_cases en : n = h2.nx
          · omega
          · rw [if_neg en] at e
            have := r2.free n o' e
            omega
        · rw [Hh.get_new (by omega)] at e
          by_cases en : n = h2.nx
          · rw [if_pos en] at e
            cases e
            refine ⟨D, ?_, vs, hH2, q2.gro g3⟩
            rw [en, r2.nx, List.getElem?_append_right (Nat.le_refl _)]
            simp
          · rw [if_neg en] at e
            obtain ⟨b, h3, h4⟩ := r2.ob n o' e
            exact ⟨b, g3.at h3, OR.keep g3 rfl h4⟩
        · rcases List.mem_append.mp hb with z | z
          · exact r2.all b z
          · rw [List.mem_singleton.mp z, hH2]; simp
      · rw [r2.nx, List.getElem?_append_right (Nat.le_refl _)]
        simp
    · rw [he] at k2
      refine .inr ⟨hgo, fun H => ∃ m2 a h2 vs, Grow m1 H1 m2 H ∧ HR X.K cl fn m2 H h2 ∧ D ∉ m2 ∧ H D = some (.lst vs) ∧ VRs X.K m2 H a.l.reverse vs ∧ a.n = vs.length ∧ SS k' (i + 1) m2 H ∧
        OkE X.K cl fn (lcEnd (rem w (lcTurn g fs f (wipeE env own)) k' (i + 1) a h2)) m1 H1 Q, fun H' w' => ⟨k', by omega, w'⟩, fun x H' yl => ?_⟩
      obtain ⟨g3, r3, q3⟩ := hy x H' yl
      have g23 := g2.trans g3
      refine ⟨m2, wipeE env own, v, ((e.grow g1).grow g23).wipe own, q3, ?_⟩
      have k2 : OkE X.K cl fn (lcEnd (turn (match stTg g v (wipeE env own) with
        | none => .no 109
        | some e1 => match evTs fs e1 h2 with
          | .ok b h1 => match b with
            | true => match f.run e1 h1 with
              | .ok w h2 => match sizeOk (a.n + 1) with
                | true => frN (a.n + 1) fun n => .ok (.nx ⟨n, w :: a.l⟩) h2
                | false => .no 110
              | .no n => .no n
            | false => .ok (.nx a) h1
          | .no n => .no n) (rem w (lcTurn g fs f (wipeE env own)) k' (i + 1)))) m1 H1 Q := k2
      cases zt : stTg g v (wipeE env own) with
      | none => rw [zt] at k2; exact k2.elim
      | some e4 =>
        rw [zt] at k2
        intro σ4 q4 o4
        refine ⟨wipe_only o4 hs, m2, e4, h2, q4, r3, ?_⟩
        have k2 : OkE X.K cl fn (lcEnd (turn (match evTs fs e4 h2 with
          | .ok b h1 => match b with
            | true => match f.run e4 h1 with
              | .ok w h2 => match sizeOk (a.n + 1) with
                | true => frN (a.n + 1) fun n => .ok (.nx ⟨n, w :: a.l⟩) h2
                | false => .no 110
              | .no n => .no n
            | false => .ok (.nx a) h1
          | .no n => .no n) (rem w (lcTurn g fs f (wipeE env own)) k' (i + 1)))) m1 H1 Q := k2
        have hD3 : H' D = some (.lst vs) := g3.out D _ hH2 hD2
        cases zb : evTs fs e4 h2 with
        | no n => rw [zb] at k2; exact k2.elim
        | ok b h5 =>
          rw [zb] at k2
          intro m5 H5 g5 r5
          have hD5 : H5 D = some (.lst vs) := g5.out D _ hD3 hD2
          have hm5 : D ∉ m5 := g5.notin (by rw [hD3]; simp) hD2
          cases b with
          | false =>
            rw [if_neg (by simp)]
            exact ⟨m5, a, h5, vs, g23.trans g5, r5, hm5, hD5, q2.gro (g3.o.trans g5.o), hn2, wk.grow _ _ _ _ _ _ st3 (g3.o.trans g5.o), k2⟩
          | true =>
            rw [if_pos rfl]
            refine ⟨m5, e4, h5, q4.grow g5, r5, ?_⟩
            have k2 : OkE X.K cl fn (lcEnd (turn (match f.run e4 h5 with
              | .ok w h2 => match sizeOk (a.n + 1) with
                | true => frN (a.n + 1) fun n => .ok (.nx ⟨n, w :: a.l⟩) h2
                | false => .no 110
              | .no n => .no n) (rem w (lcTurn g fs f (wipeE env own)) k' (i + 1)))) m1 H1 Q := k2
            cases zf : f.run e4 h5 with
            | no n => rw [zf] at k2; exact k2.elim
            | ok p h6 =>
              rw [zf] at k2
              have k2 : OkE X.K cl fn (lcEnd (turn (match sizeOk (a.n + 1) with
                | true => frN (a.n + 1) fun n => .ok (.nx ⟨n, p :: a.l⟩) h6
                | false => .no 110) (rem w (lcTurn g fs f (wipeE env own)) k' (i + 1)))) m1 H1 Q := k2
              cases zs : sizeOk (a.n + 1) with
              | false => rw [zs] at k2; exact k2.elim
              | true =>
                rw [zs] at k2
                simp only [frN_eq] at k2
                have hsz := sizeOk_le zs
                intro m6 H6 y g6 r6 q6
                have hD6 : H6 D = some (.lst vs) := g6.out D _ hD5 hm5
                have hm6 : D ∉ m6 := g6.notin (by rw [hD5]; simp) hm5
                have g26 := (g23.trans g5).trans g6
                have go26 : Gro m2 H2 m6 (upd H6 D (.lst (vs ++ [y]))) := ((g3.o.trans g5.o).trans g6.o).trans (Gro.upd_lst hD6)
                refine ⟨vs, hD6, by omega, m6, ⟨a.n + 1, p :: a.l⟩, h6, vs ++ [y], g26.upd_out hD, r6.upd_out hm6 hD6, hm6, upd_same, ?_, ?_, wk.grow _ _ _ _ _ _ st3 go26, k2⟩
                · show VRs X.K m6 _ (p :: a.l).reverse (vs ++ [y])
                  rw [List.reverse_cons]
                  exact (q2.gro go26).append (.cons (q6.gro (Gro.upd_lst hD6)) .nil)
                · show a.n + 1 = (vs ++ [y]).length
                  rw [List.length_append, hn2]; rfl
theorem pe_lcC0 {elt tg iter : Expr} {ifs : List Expr} {scope : Scope} {own : List (Str × Nat)} {g : Tg} {ei : Ei} {fs : List Et} {f : Ee} (hc : X.calm = true) (hN : X.N.Nodup) (hi : PI X tg iter (cI X.K cl fn ei)) (ok : BlkOk X.N X.env.scope scope own)
    (hg : ∀ (s : Shared) (H : Hp) (C : Addr) (cl : List (Str × Addr)) (fp : List Addr), PG (X.blk s H scope (compEnvC scope cl C X.env) fp) tg (cG X.K g)) (ht : ∀ (s : Shared) (H : Hp) (C : Addr) (cl' : List (Str × Addr)) (fp : List Addr), PTs (X.blk s H scope (compEnvC scope cl' C X.env) fp) ifs (cTs X.K cl fn fs))
    (he : ∀ (s : Shared) (H : Hp) (C : Addr) (cl' : List (Str × Addr)) (fp : List Addr), PE (X.blk s H scope (compEnvC scope cl' C X.env) fp) elt (cE X.K cl fn f)) (hs : ∀ x, foldedSetIterable iter X.env x = pure x) (hsl : ∀ i ∈ g.slots, i ∈ own.map (·.2)) :
    PE X (.ListComp elt [⟨tg, iter, ifs, 0⟩] scope pos) (cE X.K cl fn ⟨evLc0 (own.map (·.2)) g ei fs f⟩) :=
  (pe_lc hc hN hi ok hg ht he hs).of fun σ H Q w => lc_read hsl w
theorem ps_setLcC0 {i : Nat} {y : Str} {py : Pos} {elt tg iter : Expr} {ifs : List Expr} {scope : Scope} {own : List (Str × Nat)} {spos : Pos} {g : Tg} {ei : Ei} {fs : List Et} {f : Ee} (hc : X.calm = true) (hN : X.N.Nodup) (hy : X.N[i]? = some y) (hyl : X.env.scope.names.lookup y = some .local)
    (hsw : swapsWith (.ListComp elt [⟨tg, iter, ifs, 0⟩] scope pos) (some (.Name y py)) spos.line X.env = pure true) (hi : PI X tg iter (cI X.K cl fn ei)) (ok : BlkOk X.N X.env.scope scope own)
    (hg : ∀ (s : Shared) (H : Hp) (C : Addr) (cl : List (Str × Addr)) (fp : List Addr), PG (X.blk s H scope (compEnvC scope cl C X.env) fp) tg (cG X.K g)) (ht : ∀ (s : Shared) (H : Hp) (C : Addr) (cl' : List (Str × Addr)) (fp : List Addr), PTs (X.blk s H scope (compEnvC scope cl' C X.env) fp) ifs (cTs X.K cl fn fs))
    (he : ∀ (s : Shared) (H : Hp) (C : Addr) (cl' : List (Str × Addr)) (fp : List Addr), PE (X.blk s H scope (compEnvC scope cl' C X.env) fp) elt (cE X.K cl fn f)) (hs : ∀ x, foldedSetIterable iter X.env x = pure x) (hsl : ∀ i ∈ g.slots, i ∈ own.map (·.2)) :
    PS X (.Assign [.Name y py] (.ListComp elt [⟨tg, iter, ifs, 0⟩] scope pos) spos) (cS X.K cl fn ⟨sAsg (.var i) ⟨evLc0 (own.map (·.2)) g ei fs f⟩⟩) := by
  refine (ps_setLc hc hN hy hyl hsw hi ok hg ht he hs).of fun D σ H ⟨m, env, h, e, r, k⟩ => ?_
  refine lc_read hsl ⟨m, env, h, e, r, ?_⟩
  have k : OkS X.K cl fn (match evLc0 (own.map (·.2)) g ei fs f env h with
    | .ok v h1 => .ok (.nx (eset env i v)) h1
    | .no n => .no n) m H D := k
  show OkE X.K cl fn (evLc0 (own.map (·.2)) g ei fs f env h) m H _
  cases z : evLc0 (own.map (·.2)) g ei fs f env h with
  | no n => rw [z] at k; exact k
  | ok v h1 =>
    rw [z] at k
    exact fun m1 H1 x g1 r1 q => k m1 H1 g1 r1 _ ((e.grow g1).set q i)
theorem evLc_unl {own : List Nat} {g : Tg} {ei : Ei} {fs : List Et} {f : Ee} (env : Env) (h : Hh) : (∃ w, evLc own g ei fs f env h = unl h w (evLc0 own g ei fs f env h)) ∨ ∃ n, evLc own g ei fs f env h = .no n := by
  unfold evLc
  cases z : ei.run env h with
  | no n => exact .inr ⟨n, rfl⟩
  | ok w h1 =>
    refine .inl ⟨w, ?_⟩
    show unl h w (evLc0 own g ⟨fun _ _ => .ok w h1⟩ fs f env h) = _
    congr 1
    unfold evLc0 evIt
    rw [z]
theorem pe_lcC {elt tg iter : Expr} {ifs : List Expr} {scope : Scope} {own : List (Str × Nat)} {g : Tg} {ei : Ei} {fs : List Et} {f : Ee} (hc : X.calm = true) (hN : X.N.Nodup) (hi : PI X tg iter (cI X.K cl fn ei)) (ok : BlkOk X.N X.env.scope scope own)
    (hg : ∀ (s : Shared) (H : Hp) (C : Addr) (cl : List (Str × Addr)) (fp : List Addr), PG (X.blk s H scope (compEnvC scope cl C X.env) fp) tg (cG X.K g)) (ht : ∀ (s : Shared) (H : Hp) (C : Addr) (cl' : List (Str × Addr)) (fp : List Addr), PTs (X.blk s H scope (compEnvC scope cl' C X.env) fp) ifs (cTs X.K cl fn fs))
    (he : ∀ (s : Shared) (H : Hp) (C : Addr) (cl' : List (Str × Addr)) (fp : List Addr), PE (X.blk s H scope (compEnvC scope cl' C X.env) fp) elt (cE X.K cl fn f)) (hs : ∀ x, foldedSetIterable iter X.env x = pure x) (hsl : ∀ i ∈ g.slots, i ∈ own.map (·.2)) :
    PE X (.ListComp elt [⟨tg, iter, ifs, 0⟩] scope pos) (cE X.K cl fn ⟨evLc (own.map (·.2)) g ei fs f⟩) := pe_unlC (pe_lcC0 hc hN hi ok hg ht he hs hsl) fun env h => evLc_unl env h
theorem ps_setLcC {i : Nat} {y : Str} {py : Pos} {elt tg iter : Expr} {ifs : List Expr} {scope : Scope} {own : List (Str × Nat)} {spos : Pos} {g : Tg} {ei : Ei} {fs : List Et} {f : Ee} (hc : X.calm = true) (hN : X.N.Nodup) (hy : X.N[i]? = some y) (hyl : X.env.scope.names.lookup y = some .local)
    (hsw : swapsWith (.ListComp elt [⟨tg, iter, ifs, 0⟩] scope pos) (some (.Name y py)) spos.line X.env = pure true) (hi : PI X tg iter (cI X.K cl fn ei)) (ok : BlkOk X.N X.env.scope scope own)
    (hg : ∀ (s : Shared) (H : Hp) (C : Addr) (cl : List (Str × Addr)) (fp : List Addr), PG (X.blk s H scope (compEnvC scope cl C X.env) fp) tg (cG X.K g)) (ht : ∀ (s : Shared) (H : Hp) (C : Addr) (cl' : List (Str × Addr)) (fp : List Addr), PTs (X.blk s H scope (compEnvC scope cl' C X.env) fp) ifs (cTs X.K cl fn fs))
    (he : ∀ (s : Shared) (H : Hp) (C : Addr) (cl' : List (Str × Addr)) (fp : List Addr), PE (X.blk s H scope (compEnvC scope cl' C X.env) fp) elt (cE X.K cl fn f)) (hs : ∀ x, foldedSetIterable iter X.env x = pure x) (hsl : ∀ i ∈ g.slots, i ∈ own.map (·.2)) :
    PS X (.Assign [.Name y py] (.ListComp elt [⟨tg, iter, ifs, 0⟩] scope pos) spos) (cS X.K cl fn ⟨sAsg (.var i) ⟨evLc (own.map (·.2)) g ei fs f⟩⟩) := by
  refine ps_unlC (ps_setLcC0 hc hN hy hyl hsw hi ok hg ht he hs hsl) fun env h => ?_
  show (∃ w, (match evLc (own.map (·.2)) g ei fs f env h with
    | .ok v h1 => R.ok (Fl.nx (eset env i v)) h1
    | .no n => .no n) = unl h w (match evLc0 (own.map (·.2)) g ei fs f env h with
    | .ok v h1 => R.ok (Fl.nx (eset env i v)) h1
    | .no n => .no n)) ∨ ∃ n, (match evLc (own.map (·.2)) g ei fs f env h with
    | .ok v h1 => R.ok (Fl.nx (eset env i v)) h1
    | .no n => .no n) = .no n
  rcases evLc_unl (own := own.map (·.2)) (g := g) (ei := ei) (fs := fs) (f := f) env h with ⟨w, q⟩ | ⟨n, q⟩
  · rw [q]
    refine .inl ⟨w, ?_⟩
    generalize evLc0 (own.map (·.2)) g ei fs f env h = r
    cases w with
    | dct n xs =>
      cases r with
      | no c => rfl
      | ok a h1 =>
        simp only [unl]
        cases h.get n with
        | none => cases Nat.ble h.nx n <;> (cases h1.get n with
          | none => rfl
          | some ob => cases ob <;> rfl)
        | some ob =>
          cases ob <;> first | rfl | (cases h1.get n with
          | none => rfl
          | some ob => cases ob <;> rfl)
    | _ => cases r <;> rfl
  · rw [q]
    exact .inr ⟨n, rfl⟩
end
end Ev

set_option Elab.async false
set_option linter.all false
set_option maxRecDepth 100000
/-! Ev13: comparisons, chains, turned rows. -/
namespace Ev
open PySem PySem.Spec PyProof.Rows L2
open PySem.W (alike alikeAll dataLt alike_comm lt_data gt_data le_data ge_data)

section
variable {X : Cx} {cl : Nat → Addr} {fn : Nm} {pos : Pos}
/-! ### order -/
def rLtA (K : PySem.W.Frag) (neg : Bool) : R2 := fun x y H Q => rLtI neg x y H Q ∨ ∃ d e, Dp K H x d ∧ Dp K H y e ∧ alike d e = true ∧ d ≠ .none ∧ e ≠ .none ∧ d.depth ≤ 50 ∧ e.depth ≤ 50 ∧ Q (.bl (xor neg (dataLt d e))) H
theorem ov_lt {K : PySem.W.Frag} (neg : Bool) : OpV K cl fn (ltV neg) (rLtA K neg) := by
  intro m H h p q x y Q r vp vq k
  cases p with
  | int i =>
    cases q with
    | int j =>
      cases vp; cases vq
      have k : OkE K cl fn (.ok (.bl (xor neg (intLt i j))) h) m H Q := k
      rw [intLt_ok] at k
      exact .inl ⟨i, j, rfl, rfl, k.give r (.bl _)⟩
    | _ => exact (show False from k).elim
  | tup xs =>
    generalize hs : uni dpS (sgOf dpS (.tup xs)) q = s at k
    have k : OkE K cl fn (match conf dpS (uni dpS (sgOf dpS (.tup xs)) q) (.tup xs) && conf dpS (uni dpS (sgOf dpS (.tup xs)) q) q with
      | true => .ok (.bl (xor neg (ltP dpS (.tup xs) q))) h
      | false => .no 21) m H Q := k
    rw [hs] at k
    cases z : conf dpS s (.tup xs) && conf dpS s q with
    | false => rw [z] at k; exact k.elim
    | true =>
      rw [z] at k
      obtain ⟨z1, z2⟩ := Bool.and_eq_true_iff.mp z
      have k : OkE K cl fn (.ok (.bl (xor neg (ltP dpS (.tup xs) q))) h) m H Q := k
      rw [conf_lt (h := h) dpS s _ _ z1 z2] at k
      have n1 : toD h dpS (.tup xs) ≠ .none := fun e => by cases e
      have n2 : toD h dpS q ≠ .none := by
        have t := two_of (d := 11) z1 z2
        cases t
        exact fun e => by cases e
      exact .inr ⟨_, _, dp_ok r dpS _ _ (conf_data dpS _ _ z1) vp, dp_ok r dpS _ _ (conf_data dpS _ _ z2) vq, conf_alike dpS s _ _ z1 z2, n1, n2, Nat.le_trans (depth_ok h dpS _) (by decide), Nat.le_trans (depth_ok h dpS _) (by decide), k.give r (.bl _)⟩
  | _ => exact (show False from k).elim
theorem ov_flip {K : PySem.W.Frag} {g : PV → PV → Hh → R PV} {r : R2} (o : OpV K cl fn g r) : OpV K cl fn (fun a b => g b a) (fun x y => r y x) :=
  fun m H h p q x y Q rr vp vq k => o m H h q p y x Q rr vq vp k
theorem op_ltP : OpR X (compareOp .Lt) (rLtI false) := by
  intro pins s σ H x y v u Q I rx ry ⟨i, j, e1, e2, q⟩
  exact op_lt pins s σ H x y v u Q I rx ry ⟨i, j, e1, e2, by rw [Bool.false_xor] at q; exact q⟩
theorem op_gtP : OpR X (compareOp .Gt) (fun x y => rLtI false y x) := by
  intro pins s σ H x y v u Q I rx ry ⟨i, j, e1, e2, q⟩
  exact op_gt pins s σ H x y v u Q I rx ry ⟨j, i, e2, e1, by rw [Bool.false_xor] at q; exact q⟩
theorem not_lt_dec (i j : Int) : (true ^^ decide (i < j)) = decide (j ≤ i) := by
  by_cases h : i < j
  · rw [decide_eq_true h, decide_eq_false (by omega)]; rfl
  · rw [decide_eq_false h, decide_eq_true (by omega)]; rfl
theorem op_geP : OpR X (compareOp .GtE) (rLtI true) := by
  intro pins s σ H x y v u Q I rx ry ⟨i, j, e1, e2, q⟩
  exact op_ge pins s σ H x y v u Q I rx ry ⟨i, j, e1, e2, by rw [not_lt_dec] at q; exact q⟩
theorem op_leP : OpR X (compareOp .LtE) (fun x y => rLtI true y x) := by
  intro pins s σ H x y v u Q I rx ry ⟨i, j, e1, e2, q⟩
  exact op_le pins s σ H x y v u Q I rx ry ⟨j, i, e2, e1, by rw [not_lt_dec] at q; exact q⟩
theorem dl_min {A : Around} {d e : PyData} (hu : A.units + 64 < cLine) (h : d.depth ≤ 50) : A.units + min d.depth e.depth < cLine := by
  have := Nat.min_le_left d.depth e.depth
  omega
theorem op_ltA (hu : X.A.units + 64 < cLine) : OpR X (compareOp .Lt) (rLtA X.K false) := by
  intro pins s σ H x y v u Q I rx ry h
  rcases h with h | ⟨d, e, hd, he, al, n1, n2, p1, p2, q⟩
  · exact op_ltP pins s σ H x y v u Q I rx ry h
  · obtain ⟨as, r1⟩ := Dp.reads I d x v hd rx
    obtain ⟨bs, r2⟩ := Dp.reads I e y u he ry
    exact lt_data r1 r2 al n1 (dl_min hu p1) ⟨.bl _, H, I, rfl, by simpa using q⟩
theorem op_gtA (hu : X.A.units + 64 < cLine) : OpR X (compareOp .Gt) (fun x y => rLtA X.K false y x) := by
  intro pins s σ H x y v u Q I rx ry h
  rcases h with h | ⟨d, e, hd, he, al, n1, n2, p1, p2, q⟩
  · exact op_gtP pins s σ H x y v u Q I rx ry h
  · obtain ⟨as, r1⟩ := Dp.reads I e x v he rx
    obtain ⟨bs, r2⟩ := Dp.reads I d y u hd ry
    exact gt_data r1 r2 (by rw [alike_comm]; exact al) n2 (dl_min hu p2) ⟨.bl _, H, I, rfl, by simpa using q⟩
theorem op_leA (hu : X.A.units + 64 < cLine) : OpR X (compareOp .LtE) (fun x y => rLtA X.K true y x) := by
  intro pins s σ H x y v u Q I rx ry h
  rcases h with h | ⟨d, e, hd, he, al, n1, n2, p1, p2, q⟩
  · exact op_leP pins s σ H x y v u Q I rx ry h
  · obtain ⟨as, r1⟩ := Dp.reads I e x v he rx
    obtain ⟨bs, r2⟩ := Dp.reads I d y u hd ry
    exact le_data r1 r2 (by rw [alike_comm]; exact al) n2 (dl_min hu p2) ⟨.bl _, H, I, rfl, by simpa using q⟩
theorem op_geA (hu : X.A.units + 64 < cLine) : OpR X (compareOp .GtE) (rLtA X.K true) := by
  intro pins s σ H x y v u Q I rx ry h
  rcases h with h | ⟨d, e, hd, he, al, n1, n2, p1, p2, q⟩
  · exact op_geP pins s σ H x y v u Q I rx ry h
  · obtain ⟨as, r1⟩ := Dp.reads I d x v hd rx
    obtain ⟨bs, r2⟩ := Dp.reads I e y u he ry
    exact ge_data r1 r2 al n1 (dl_min hu p1) ⟨.bl _, H, I, rfl, by simpa using q⟩
/-! ### membership -/
def rMemA (K : PySem.W.Frag) (w : World) (neg : Bool) : R2 := fun x y H Q => rMemP K neg x y H Q ∨ ∃ a o, y = .ref a ∧ DG K w H a x o ∧ Q (.bl (xor neg o.isSome)) H
theorem op_inA (hu : X.A.units + 64 < cLine) : OpR X (compareOp .In) (rMemA X.K X.w false) := by
  intro pins s σ H x y v u Q I rx ry h
  rcases h with h | ⟨a, o, rfl, g, q⟩
  · exact op_inP hu pins s σ H x y v u Q I rx ry h
  · obtain rfl : u = Value.ref a := ry
    exact g_in hu I g rx fun s' I' => ⟨.bl o.isSome, H, I', rfl, by simpa using q⟩
theorem op_ninA (hu : X.A.units + 64 < cLine) : OpR X (compareOp .NotIn) (rMemA X.K X.w true) := by
  intro pins s σ H x y v u Q I rx ry h
  rcases h with h | ⟨a, o, rfl, g, q⟩
  · exact op_ninP hu pins s σ H x y v u Q I rx ry h
  · obtain rfl : u = Value.ref a := ry
    exact g_notIn hu I g rx fun s' I' => ⟨.bl (!o.isSome), H, I', rfl, by simpa using q⟩
theorem ov_mem {K : PySem.W.Frag} (neg : Bool) : OpV K cl fn (memV neg) (rMemA K fn.w neg) := by
  intro m H h p q x y Q r vp vq k
  have main : ∀ {xs : List PV} {a : Addr} {vs : List V} {n : Nat}, y = .ref a → (SqL K H a vs ∨ SqT K H a vs) → VRs K m H xs vs → OkE K cl fn (match memL h p xs with
      | some r => .ok (.bl (xor neg r)) h
      | none => .no n) m H Q → rMemA K fn.w neg x y H Q := fun {xs a vs n} ey hs s k => by
    cases z : memL h p xs with
    | none => rw [z] at k; exact k.elim
    | some b =>
      rw [z] at k
      obtain ⟨e1, e2, e3⟩ := memL_ok z
      have k : OkE K cl fn (.ok (.bl (xor neg b)) h) m H Q := k
      rw [e3] at k
      exact .inl ⟨a, _, _, vs, ey, hs, dps_ok (fun p x => dp_ok r depthMax p x) e2 s, dp_ok r _ _ _ e1 vp, plains_ok (plain_ok h _) xs, plain_ok h _ p, depth_ok h _ p, k.give r (.bl _)⟩
  cases q with
  | tup xs =>
    obtain ⟨a, vs, rfl, h1, h2⟩ := vq.tup_inv
    exact main rfl (.inr h1) h2 k
  | fro xs =>
    obtain ⟨a, vs, rfl, h1, h2⟩ := vq.fro_inv
    exact main rfl (.inl h1.sql) h2 k
  | ref n =>
    have k : OkE K cl fn (match lsOf h (.ref n) with
      | some xs => match memL h p xs with
        | some r => .ok (.bl (xor neg r)) h
        | none => .no 23
      | none => match ddOf h n with
        | some d => match d.kOk p with
          | true => match d.look p with
            | some _ => .ok (.bl (!neg)) h
            | none => .ok (.bl neg) h
          | false => .no 24
        | none => .no 25) m H Q := k
    cases z : lsOf h (.ref n) with
    | some xs =>
      rw [z] at k
      obtain ⟨a, vs, rfl, h1, h2⟩ := lsOf_sql r vq z
      exact main rfl (.inl h1) h2 k
    | none =>
      rw [z] at k
      have k : OkE K cl fn (match ddOf h n with
        | some d => match d.kOk p with
          | true => match d.look p with
            | some _ => .ok (.bl (!neg)) h
            | none => .ok (.bl neg) h
          | false => .no 24
        | none => .no 25) m H Q := k
      cases z2 : ddOf h n with
      | none => rw [z2] at k; exact k.elim
      | some d =>
        rw [z2] at k
        have k : OkE K cl fn (match d.kOk p with
          | true => match d.look p with
            | some _ => .ok (.bl (!neg)) h
            | none => .ok (.bl neg) h
          | false => .no 24) m H Q := k
        cases z3 : d.kOk p with
        | false => rw [z3] at k; exact k.elim
        | true =>
          rw [z3] at k
          have k : OkE K cl fn (match d.look p with
            | some _ => .ok (.bl (!neg)) h
            | none => .ok (.bl neg) h) m H Q := k
          obtain ⟨a, rfl, ha⟩ := vq.ref_inv
          obtain ⟨o, g, lk⟩ := r.dg z2 ha z3 vp
          cases z4 : d.look p with
          | none =>
            rw [z4] at k lk
            have e : o = none := lk
            subst e
            refine .inr ⟨a, none, rfl, g, ?_⟩
            have := k.give r (.bl neg)
            cases neg <;> exact this
          | some v =>
            rw [z4] at k lk
            obtain ⟨v', rfl, vv⟩ := lk
            refine .inr ⟨a, _, rfl, g, ?_⟩
            have := k.give r (.bl (!neg))
            cases neg <;> exact this
  | _ => exact (show False from k).elim
theorem cop_ok {op : CmpOp} {o : Cop} (hw : fn.w = X.w) (hu : X.A.units + 64 < cLine) (e : copOf op = some o) : CopOk X cl fn op o := by
  cases op with
  | Eq => cases e; exact ⟨_, op_eqP hu, ov_eq⟩
  | NotEq => cases e; exact ⟨_, op_neP hu, ov_ne⟩
  | Lt => cases e; exact ⟨_, op_ltA hu, ov_lt false⟩
  | LtE => cases e; exact ⟨_, op_leA hu, ov_flip (ov_lt true)⟩
  | Gt => cases e; exact ⟨_, op_gtA hu, ov_flip (ov_lt false)⟩
  | GtE => cases e; exact ⟨_, op_geA hu, ov_lt true⟩
  | Is => cases e; exact ⟨_, op_isP, ov_is false⟩
  | IsNot => cases e; exact ⟨_, op_isnP, ov_is true⟩
  | In => cases e; exact ⟨_, by rw [hw]; exact op_inA hu, ov_mem false⟩
  | NotIn => cases e; exact ⟨_, by rw [hw]; exact op_ninA hu, ov_mem true⟩
/-! ### a < b <= c -/
/-- its value is always a bool -/
def BlE (f : Ee) : Prop := ∀ env h v h1, f.run env h = .ok v h1 → ∃ k, v = .bl k
theorem tv_bl {f : Ee} (hb : BlE f) {K : PySem.W.Frag} {σ : L2.St} {H : Hp} {Q : Bool → Hp → Prop} (w : cT K cl fn ⟨tVal f⟩ σ H Q) : cE K cl fn f σ H fun x H' => ∃ k, x = .bl k ∧ Q k H' := by
  obtain ⟨m, env, h, e, r, k⟩ := w
  refine ⟨m, env, h, e, r, ?_⟩
  have k : OkT K cl fn (match f.run env h with
    | .ok v h1 => truth v h1
    | .no n => .no n) m H Q := k
  cases z : f.run env h with
  | no n => rw [z] at k; exact k
  | ok v h1 =>
    rw [z] at k
    obtain ⟨b, rfl⟩ := hb _ _ _ _ z
    have k : OkT K cl fn (.ok b h1) m H Q := k
    exact fun m' H' x g' r' q => by cases q; exact ⟨b, rfl, k m' H' g' r'⟩
theorem chain_read {o o' : Cop} {f g c : Ee} {r r' : R2} (h1 : OpV X.K cl fn (copV o) r) (h2 : OpV X.K cl fn (copV o') r') {σ : L2.St} {H : Hp} {Q : VK} (w : cE X.K cl fn ⟨eChain (copV o) (copV o') f g c⟩ σ H Q) :
    tChain r r' (cE X.K cl fn f) (cE X.K cl fn g) (cE X.K cl fn c) σ H Q := by
  obtain ⟨m, env, h, e, rr, k⟩ := w
  have k : OkE X.K cl fn (match f.run env h with
    | .ok v h1 => match g.run env h1 with
      | .ok w h2 => match copV o v w h2 with
        | .ok r h3 => match r with
          | .bl k => match k with
            | true => match c.run env h3 with
              | .ok z h4 => copV o' w z h4
              | .no n => .no n
            | false => .ok (.bl false) h3
          | _ => .no 134
        | .no n => .no n
      | .no n => .no n
    | .no n => .no n) m H Q := k
  cases z : f.run env h with
  | no n => rw [z] at k; exact k.elim
  | ok v h1' =>
    rw [z] at k
    refine cE.bind e rr (fun v' h1'' z' m1 H1 x g1 r1 e1 q => ?_) (fun n z' => by rw [z] at z'; cases z')
    rw [z] at z'; cases z'
    have k : OkE X.K cl fn (match g.run env h1' with
      | .ok w h2 => match copV o v w h2 with
        | .ok r h3 => match r with
          | .bl k => match k with
            | true => match c.run env h3 with
              | .ok z h4 => copV o' w z h4
              | .no n => .no n
            | false => .ok (.bl false) h3
          | _ => .no 134
        | .no n => .no n
      | .no n => .no n) m H Q := k
    cases z2 : g.run env h1' with
    | no n => rw [z2] at k; exact k.elim
    | ok w h2' =>
      rw [z2] at k
      refine cE.bind e1 r1 (fun v' h2'' z2' m2 H2 y g2 r2 e2 q2 => ?_) (fun n z' => by rw [z2] at z'; cases z')
      rw [z2] at z2'; cases z2'
      have k : OkE X.K cl fn (match copV o v w h2' with
        | .ok r h3 => match r with
          | .bl k => match k with
            | true => match c.run env h3 with
              | .ok z h4 => copV o' w z h4
              | .no n => .no n
            | false => .ok (.bl false) h3
          | _ => .no 134
        | .no n => .no n) m H Q := k
      refine h1 m2 H2 h2' v w x y _ r2 (q.grow g2) q2 ?_
      cases z3 : copV o v w h2' with
      | no n => rw [z3] at k; exact k.elim
      | ok b h3 =>
        rw [z3] at k
        obtain ⟨⟨b, rfl⟩, rfl⟩ := copV_bl z3
        intro m3 H3 u g3 r3 q3
        cases q3
        refine ⟨b, rfl, ?_⟩
        cases b with
        | false => rw [if_neg (by simp)]; exact (OkE.mono ((g1.trans g2).trans g3) (show OkE X.K cl fn (.ok (.bl false) h3) m H Q from k)).give r3 (.bl _)
        | true =>
          rw [if_pos rfl]
          have k : OkE X.K cl fn (match c.run env h3 with
            | .ok z h4 => copV o' w z h4
            | .no n => .no n) m H Q := k
          cases z4 : c.run env h3 with
          | no n => rw [z4] at k; exact k.elim
          | ok p h4 =>
            rw [z4] at k
            refine cE.bind (e2.grow g3) r3 (fun v' h4' z4' m4 H4 u2 g4 r4 e4 q4 => ?_) (fun n z' => by rw [z4] at z'; cases z')
            rw [z4] at z4'; cases z4'
            exact h2 m4 H4 _ _ _ _ _ _ r4 (q2.grow (g3.trans g4)) q4 (OkE.mono (((g1.trans g2).trans g3).trans g4) k)
theorem chain_bl {o o' : Cop} {f g c : Ee} : BlE ⟨eChain (copV o) (copV o') f g c⟩ := by
  intro env h v h1 e
  have e : (match f.run env h with
    | .ok v h1 => match g.run env h1 with
      | .ok w h2 => match copV o v w h2 with
        | .ok r h3 => match r with
          | .bl k => match k with
            | true => match c.run env h3 with
              | .ok z h4 => copV o' w z h4
              | .no n => .no n
            | false => .ok (.bl false) h3
          | _ => .no 134
        | .no n => .no n
      | .no n => .no n
    | .no n => .no n) = R.ok v h1 := e
  split at e
  · split at e
    · split at e
      · split at e
        · split at e
          · split at e
            · exact (copV_bl e).1
            · cases e
          · cases e; exact ⟨_, rfl⟩
        · cases e
      · cases e
    · cases e
  · cases e
theorem pe_chainC {a b d : Expr} {op op' : CmpOp} {o o' : Cop} {f g c : Ee} (ho : CopOk X cl fn op o) (ho' : CopOk X cl fn op' o') (hm : lastMarks [op, op'] [b, d] = false) (ha : PE X a (cE X.K cl fn f)) (hb : PE X b (cE X.K cl fn g)) (hd : PE X d (cE X.K cl fn c)) :
    PE X (.Compare a [op, op'] [b, d] pos) (cE X.K cl fn ⟨eChain (copV o) (copV o') f g c⟩) := by
  obtain ⟨r, h1, h2⟩ := ho.ex
  obtain ⟨r', h1', h2'⟩ := ho'.ex
  exact (pe_chain h1 h1' ha hb hd hm).of fun σ H Q w => chain_read h2 h2' w
theorem pt_chainC {a b d : Expr} {op op' : CmpOp} {o o' : Cop} {f g c : Ee} (ho : CopOk X cl fn op o) (ho' : CopOk X cl fn op' o') (hm : lastMarks [op, op'] [b, d] = false) (ha : PE X a (cE X.K cl fn f)) (hb : PE X b (cE X.K cl fn g)) (hd : PE X d (cE X.K cl fn c)) :
    PT X (.Compare a [op, op'] [b, d] pos) (cT X.K cl fn ⟨tVal ⟨eChain (copV o) (copV o') f g c⟩⟩) := by
  obtain ⟨r, h1, h2⟩ := ho.ex
  obtain ⟨r', h1', h2'⟩ := ho'.ex
  exact (pt_chain h1 h1' ha hb hd hm).of fun σ H Q w => chain_read h2 h2' (tv_bl chain_bl w)
/-! ### x[::-1] -/
theorem adjust_rev (n : Nat) : Builtin.Slice.sliceAdjust none none (-1) (n : Int) = ((n : Int) - 1, -1) := rfl
theorem places_rev (n : Nat) : Builtin.Slice.slicePlaces ((n : Int) - 1) (-1) (-1) = n := by
  unfold Builtin.Slice.slicePlaces
  have h1 : ¬ ((-1 : Int) > 0) := by omega
  have h2 : (- -1 : Int) = 1 := by omega
  rw [if_neg h1, h2, Int.ediv_one]
  split <;> omega
theorem fm_congr {α β : Type} {f g : α → Option β} : ∀ {l : List α}, (∀ a ∈ l, f a = g a) → l.filterMap f = l.filterMap g
  | [], _ => rfl
  | a :: l, h => by
    rw [List.filterMap_cons, List.filterMap_cons, h a (List.mem_cons_self ..), fm_congr fun b hb => h b (List.mem_cons_of_mem _ hb)]
theorem pick_rev (xs : Array Value) : ((List.range xs.size).filterMap fun (k : Nat) => xs[((xs.size : Int) - 1 + (k : Int) * (-1)).toNat]?).toArray = xs.toList.reverse.toArray := by
  have e : (List.range xs.size).filterMap (fun (k : Nat) => xs[((xs.size : Int) - 1 + (k : Int) * (-1)).toNat]?) = ((List.range xs.size).map fun k => xs.size - 1 - k).filterMap (xs[·]?) := by
    rw [List.filterMap_map]
    apply fm_congr
    intro k hk
    have := List.mem_range.mp hk
    have e2 : ((xs.size : Int) - 1 + (k : Int) * (-1)).toNat = xs.size - 1 - k := by omega
    show xs[((xs.size : Int) - 1 + (k : Int) * (-1)).toNat]? = xs[xs.size - 1 - k]?
    rw [e2]
  rw [e, PySem.W.krv_range, List.filterMap_reverse, PySem.W.krv_all]
theorem sliceApplied_rev {prog : Program} {w : World} {A : Around} {E : Value → Shared → Prop} {s : Shared} {sl : Addr} {t : Tok} {n : Nat} {Q : Int × Int × Nat → Shared → Prop} (hs : s.heap.IsSliceOf sl .none .none (.int (-1) t))
    (h : Q ((n : Int) - 1, -1, n) s) : wpAny (model prog w) A (Builtin.Slice.sliceApplied (.ref sl) (pure (n : Int))) Q E s := by
  obtain ⟨os, hos, hcs, hds⟩ := id hs
  unfold Builtin.Slice.sliceApplied Builtin.Slice.sliceFields
  refine wpAny_bind (wpAny_bind (wpAny_field hos hds (x := .none) rfl (wpAny_bind (wpAny_field hos hds (x := .none) rfl (wpAny_bind (wpAny_field hos hds (x := .int (-1) t) rfl (wpAny_pure ?_)))))))
  refine wpAny_bind (slicePart_int ?_)
  show wpAny _ _ (if ((-1 : Int) == 0) = true then _ else _) _ _ s
  rw [if_neg (by decide)]
  refine wpAny_bind (slicePart_none (wpAny_bind (slicePart_none (wpAny_bind (wpAny_pure ?_)))))
  show wpAny _ _ (pure ((n : Int) - 1, (-1 : Int), Builtin.Slice.slicePlaces ((n : Int) - 1) (-1) (-1))) _ _ s
  rw [places_rev]
  exact wpAny_pure h
theorem getItem_tuple_rev {prog : Program} {w : World} {A : Around} {E : Value → Shared → Prop} {s : Shared} {t sl : Addr} {items : Array Value} {tk : Tok} {Q : Value → Shared → Prop} (ht : IsTup s.heap t items) (hs : s.heap.IsSliceOf sl .none .none (.int (-1) tk))
    (h : Q (.ref s.heap.objs.size) { s with heap := s.heap.push { cls := .type "tuple", data := .seq items.toList.reverse.toArray } })
    (hsz : items.size ≤ sizeLine) : wpAny (model prog w) A (getItem (.ref t) (.ref sl)) Q E s := by
  have htake : PySem.sizeOk (.seq items.toList.reverse.toArray) := by
    show items.toList.reverse.toArray.size ≤ sizeLine
    rw [List.size_toArray, List.length_reverse, Array.length_toList]
    exact hsz
  obtain ⟨os, hos, hcs, hds⟩ := id hs
  have hTs : s.TypeIs (.ref sl) "slice" := ⟨os, hos, hcs⟩
  unfold getItem
  try with_reducible refine wpAny_holding ?_
  first | refine wpAny_bind (wpAny_pure ?_) | skip
  refine wpAny_bind (wpAny_sequenceKey ht.typeIs (by decide) ?_)
  refine wpAny_bind (wpAny_callSpecial?_slot (name := Str.ofString "__getitem__") ht.typeIs PyProof.Rows.slot_tuple_getitem
    (wpAny_call_entry PyProof.Rows.slot_tuple_getitem ht.typeIs entry_tuple_getitem ?_ (args_tuple_getitem _ _)))
  show wpAny _ _ (Builtin.Tuple.tupleItemsOf (.ref t) >>= _) _ _ s
  refine wpAny_bind (tupleItemsOf_ ht ?_)
  refine wpAny_bind (wpAny_typeOf hTs ?_)
  rw [if_pos (by decide)]
  refine wpAny_bind (sliceApplied_rev hs ?_)
  have hno : ¬ ((((items.size : Int) - 1 == 0 && (-1 : Int) == 1 && items.size == items.size)) = true) := by
    rw [show ((-1 : Int) == 1) = false from rfl, Bool.and_false, Bool.false_and]
    exact Bool.false_ne_true
  show wpAny _ _ (if ((items.size : Int) - 1 == 0 && (-1 : Int) == 1 && items.size == items.size) = true then _ else _) _ _ s
  rw [if_neg hno, pick_rev]
  first
    | exact wpAny_bind (m := Builtin.Tuple.tupleExact _) (wpAny_newObj_type (wpAny_pure ⟨_, rfl, wpAny_pure h⟩) htake)
    | exact wpAny_bind (m := Builtin.Tuple.tupleExact _) (wpAny_newObj_type (wpAny_bind (wpAny_pure (wpAny_pure ⟨_, rfl, wpAny_pure h⟩))) htake)
    | exact wpAny_bind (wpAny_bind (m := Builtin.Tuple.tupleExact _) (wpAny_newObj_type (wpAny_pure (wpAny_pure ⟨_, rfl, wpAny_pure h⟩)) htake))
    | exact wpAny_bind (wpAny_bind (m := Builtin.Tuple.tupleExact _) (wpAny_newObj_type (wpAny_pure ⟨_, rfl, wpAny_pure h⟩) htake))
def tRevA (K : PySem.W.Frag) (te : TE) : TE := fun σ H Q => te σ H fun x H1 => ∃ a xs, x = .ref a ∧ ((SqL K H1 a xs ∧ ∀ p, H1 p = none → Q (.ref p) (upd H1 p (.lst xs.reverse))) ∨ (SqT K H1 a xs ∧ ∀ p, H1 p = none → Q (.ref p) (upd H1 p (.tup xs.reverse))))
theorem pe_revA {e : Expr} {te : TE} {k : Nat} {p1 p2 p3 pos : Pos} (he : PE X e te) : PE X (.Subscript e (.Slice none none (some (.UnaryOp .USub (.Constant (.int 1) k p1) p2)) p3) pos) (tRevA X.K te) := by
  refine ⟨fun pins s σ H Q I h => ?_⟩
  refine Subscript_ (thn (he.run pins s σ H _ I h) fun v s1 ⟨x, H1, I1, r1, q1⟩ => ?_)
  obtain ⟨a, xs, ex, q⟩ := q1
  subst ex
  cases r1
  have hst : PO X (some (.UnaryOp .USub (.Constant (.int 1) k p1) p2)) (tPart (tUn (rU fun i => .int (-i)) (tC (.int 1)))) := po_some (pe_un un_neg pe_int)
  refine wpAny_Slice (thn (po_none.run pins s1 σ H1 (fun o H2 => o = none ∧ H2 = H1) I1 ⟨rfl, rfl⟩) fun vl s2 ⟨l, H2, I2, pl, el, e2⟩ => ?_)
  subst el e2
  refine thn (po_none.run pins s2 σ H2 (fun o H3 => o = none ∧ H3 = H2) I2 ⟨rfl, rfl⟩) fun vu s3 ⟨u, H3, I3, pu, eu, e3⟩ => ?_
  subst eu e3
  refine thn (hst.run pins s3 σ H3 (fun o H4 => o = some (-1) ∧ H4 = H3) I3 ⟨1, rfl, -1, rfl, rfl, rfl⟩) fun vs s4 ⟨o, H4, I4, ps, eo, e4⟩ => ?_
  subst eo e4
  have I5 : Inv X pins σ H4 { s4 with heap := s4.heap.push { cls := .type "slice", data := .fields #[vl, vu, vs] } } := I4.kept (t' := s4.toks) fun b ob q => Heap.get?_push_of_some _ q
  show wpAny (model X.prog X.w) X.A (subscriptTail e (.Slice none none (some (.UnaryOp .USub (.Constant (.int 1) k p1) p2)) p3) (.ref a) (.ref s4.heap.objs.size)) (EP X pins σ Q) X.xe { s4 with heap := s4.heap.push { cls := .type "slice", data := .fields #[vl, vu, vs] } }
  rcases q with ⟨hx, q⟩ | ⟨hx, q⟩
  · obtain ⟨its, r, ht, hz⟩ := I5.list hx
    have hlen := r.length
    refine tail_any (ops := [.ref a, .ref s4.heap.objs.size]) ht.isList.typeIs (PySem.slot_list_getitem.lookup) ?_ (by with_unfolding_all rfl)
    refine wpAny_getItem_list_slice ht.isList (Heap.IsSliceOf.new _ vl vu vs) pl pu ps (by decide) ?_ (by rw [List.size_toArray]; omega)
    rw [PySem.W.krv_pick]
    refine ⟨.ref _, _, I5.laid (t' := s4.toks) (o := .lst xs.reverse) (fun b ob q => Heap.get?_push_of_some _ q) (Nat.le_refl _) ?_, rfl, q _ (I5.hok.fresh (Nat.le_refl _))⟩
    exact ⟨by rw [List.length_reverse]; exact hz, _, 0, r.reverse, Heap.get?_push_size _ rfl⟩
  · obtain ⟨its, r, ht, hz⟩ := I5.tuple hx
    have hlen := r.length
    cases pl
    cases pu
    cases ps with
    | int i t =>
    refine tail_any (ops := [.ref a, .ref s4.heap.objs.size]) ht.typeIs (PyProof.Rows.slot_tuple_getitem.lookup) ?_ (by with_unfolding_all rfl)
    refine getItem_tuple_rev ht (Heap.IsSliceOf.new _ _ _ _) ?_ (by rw [List.size_toArray]; omega)
    refine ⟨.ref _, _, I5.laid (t' := s4.toks) (o := .tup xs.reverse) (fun b ob q => Heap.get?_push_of_some _ q) (Nat.le_refl _) ?_, rfl, q _ (I5.hok.fresh (Nat.le_refl _))⟩
    exact ⟨by rw [List.length_reverse]; exact hz, _, r.reverse, IsTup.new _ _⟩
theorem rv_ok {K : PySem.W.Frag} : UnV K cl fn rvV (fun x H Q => ∃ a xs, x = .ref a ∧ ((SqL K H a xs ∧ ∀ p, H p = none → Q (.ref p) (upd H p (.lst xs.reverse))) ∨ (SqT K H a xs ∧ ∀ p, H p = none → Q (.ref p) (upd H p (.tup xs.reverse))))) := by
  intro m H h p x Q r q k
  cases p with
  | tup ps =>
    obtain ⟨a, vs, rfl, h1, h2⟩ := q.tup_inv
    exact ⟨a, vs, rfl, .inr ⟨h1, fun p hp => OkE.tup k r h2.rev hp⟩⟩
  | ref n =>
    have k : OkE K cl fn (match h.get n with
      | some (.lst xs) => newOb (.lst xs.reverse) h
      | _ => .no 40) m H Q := k
    cases z : h.get n with
    | none => rw [z] at k; exact k.elim
    | some o =>
      rw [z] at k
      cases o with
      | lst xs =>
        obtain ⟨a, vs, rfl, h1, h2⟩ := lsOf_sql r q (lsOf_lst z)
        exact ⟨a, vs, rfl, .inl ⟨h1, fun p hp => OkE.lst k r h2.rev hp⟩⟩
      | _ => exact (show False from k).elim
  | _ => exact (show False from k).elim
theorem pe_rvC {e : Expr} {f : Ee} {k : Nat} {p1 p2 p3 pos : Pos} (he : PE X e (cE X.K cl fn f)) : PE X (.Subscript e (.Slice none none (some (.UnaryOp .USub (.Constant (.int 1) k p1) p2)) p3) pos) (cE X.K cl fn ⟨e1 rvV f⟩) :=
  (pe_revA he).of fun σ H Q w => one rv_ok w
end
end Ev

set_option Elab.async false
set_option linter.all false
set_option maxRecDepth 100000
/-! EvDE: dicts' displays, and by loops, in the evaluator. -/
namespace Ev
open PySem PySem.Spec PyProof.Rows L2

theorem newOb_or (o : Ob) (h : Hh) : (newOb o h = .ok (.ref h.nx) (h.new o) ∧ h.nx < 1000000000) ∨ newOb o h = .no 1 := by
  unfold newOb
  cases z : Nat.blt h.nx 1000000000 with
  | false => exact .inr rfl
  | true =>
    refine .inl ⟨?_, Nat.le_of_ble_eq_true z⟩
    simp only [frN_eq]
section
variable {X : Cx} {cl : Nat → Addr} {fn : Nm} {pos : Pos}
theorem new_dct {K : PySem.W.Frag} {m : List Addr} {H : Hp} {h : Hh} (r : HR K cl fn m H h) {p : Addr} (hp : H p = none) (hs : h.nx < 1000000000) :
    Grow m H (m ++ [p]) (upd H p (.dK [])) ∧ HR K cl fn (m ++ [p]) (upd H p (.dK [])) (h.new (.dct Dd.nil)) ∧ (m ++ [p])[h.nx]? = some p := by
  refine ⟨Grow.upd_new1 hp, r.new hp hs ⟨[], .dK [], DR.nil, upd_same, [], rfl, .nil⟩, ?_⟩
  rw [r.nx, List.getElem?_append_right (Nat.le_refl _)]
  simp
/-- a store, by values -/
theorem putD_ok {K : PySem.W.Frag} {m : List Addr} {H : Hp} {h h1 : Hh} {n : Nat} {a : Addr} {k p v : PV} {y x : V} (r : HR K cl fn m H h) (ha : m[n]? = some a) (qk : VR K m H k y) (qv : VR K m H p x) (e : putD n k p h = .ok v h1) :
    v = .ref n ∧ ∃ H', DP K fn.w H a y x H' ∧ Grow m H m H' ∧ HR K cl fn m H' h1 := by
  unfold putD at e
  cases z : h.get n with
  | none => rw [z] at e; cases e
  | some ob =>
    rw [z] at e
    cases ob with
    | dct d =>
      have e : (match d.kOk k && sizeOk (d.n + 1) with
        | true => R.ok (PV.ref n) (h.put n (.dct (d.put k p)))
        | false => .no 113) = .ok v h1 := e
      cases zk : d.kOk k && sizeOk (d.n + 1) with
      | false => rw [zk] at e; cases e
      | true =>
        rw [zk] at e
        obtain ⟨zk1, zk2⟩ := Bool.and_eq_true_iff.mp zk
        obtain ⟨H', g, gr, r2⟩ := r.dp z ha zk1 zk2 qk qv
        cases e
        exact ⟨rfl, H', g, gr, r2⟩
    | _ => cases e
abbrev PvR (K : PySem.W.Frag) (m : List Addr) (H : Hp) : List (PV × PV) → List (V × V) → Prop := Paired fun q p => VR K m H q.1 p.1 ∧ VR K m H q.2 p.2
theorem PvR.grow {K : PySem.W.Frag} {m m' : List Addr} {H H' : Hp} (g : Grow m H m' H') {ps : List (PV × PV)} {vs : List (V × V)} (r : PvR K m H ps vs) : PvR K m' H' ps vs := Paired.mapP r fun _ _ q => ⟨q.1.grow g, q.2.grow g⟩
theorem puts_read {K : PySem.W.Frag} {n : Nat} {a : Addr} : ∀ {ps : List (PV × PV)} {vs : List (V × V)} {m : List Addr} {H : Hp} {h h2 : Hh} {v : PV} {R : Hp → Prop}, HR K cl fn m H h → m[n]? = some a → PvR K m H ps vs → putAllD n ps h = .ok v h2 →
    (v = .ref n → ∀ H', Grow m H m H' → HR K cl fn m H' h2 → R H') → tPuts K fn.w a vs H R
  | [], _, m, H, h, h2, v, R, r, ha, .nil, e, q => by
    cases e
    exact q rfl H (Grow.refl m H) r
  | x :: ps, _, m, H, h, h2, v, R, r, ha, .cons (b := y) hx t, e, q => by
    have e : (match putD n x.1 x.2 h with
      | .ok _ h1 => putAllD n ps h1
      | .no c => .no c) = .ok v h2 := e
    cases z : putD n x.1 x.2 h with
    | no c => rw [z] at e; cases e
    | ok w h1 =>
      rw [z] at e
      obtain ⟨_, H', g, gr, r2⟩ := putD_ok r ha hx.1 hx.2 z
      exact ⟨H', g, puts_read r2 ha (PvR.grow gr t) e fun ev H2 g2 r3 => q ev H2 (gr.trans g2) r3⟩
theorem prs_read {K : PySem.W.Frag} {σ : L2.St} : ∀ {fs : List (Ee × Ee)} {m : List Addr} {env : Env} {H : Hp} {h h2 : Hh} {vs : List (PV × PV)} {Q : List (V × V) → Hp → Prop}, EnvR K m H env σ → HR K cl fn m H h → evPs fs env h = .ok vs h2 →
    (∀ m' H' xs, Grow m H m' H' → HR K cl fn m' H' h2 → PvR K m' H' vs xs → Q xs H') → tPairs (fs.map fun q => (cE K cl fn q.1, cE K cl fn q.2)) σ H Q
  | [], m, env, H, h, h2, vs, Q, e, r, z, q => by
    cases z
    exact q m H [] (Grow.refl m H) r .nil
  | f :: fs, m, env, H, h, h2, vs, Q, e, r, z, q => by
    have z : (match f.1.run env h with
      | .ok x h1 => match f.2.run env h1 with
        | .ok y h2 => match evPs fs env h2 with
          | .ok ps h3 => R.ok ((x, y) :: ps) h3
          | .no n => .no n
        | .no n => .no n
      | .no n => .no n) = .ok vs h2 := z
    cases z1 : f.1.run env h with
    | no c => rw [z1] at z; cases z
    | ok x h3 =>
      rw [z1] at z
      have z : (match f.2.run env h3 with
        | .ok y h2 => match evPs fs env h2 with
          | .ok ps h3 => R.ok ((x, y) :: ps) h3
          | .no n => .no n
        | .no n => .no n) = .ok vs h2 := z
      cases z2 : f.2.run env h3 with
      | no c => rw [z2] at z; cases z
      | ok y h4 =>
        rw [z2] at z
        have z : (match evPs fs env h4 with
          | .ok ps h3 => R.ok ((x, y) :: ps) h3
          | .no n => .no n) = .ok vs h2 := z
        cases z3 : evPs fs env h4 with
        | no c => rw [z3] at z; cases z
        | ok ps h5 =>
          rw [z3] at z
          cases z
          show cE K cl fn f.1 σ H fun x H1 => cE K cl fn f.2 σ H1 fun y H2 => tPairs (fs.map fun q => (cE K cl fn q.1, cE K cl fn q.2)) σ H2 fun ps H3 => Q ((x, y) :: ps) H3
          refine cE.bind e r (fun v' h' z' m1 H1 x1 g1 r1 e1 q1 => ?_) (fun n z' => by rw [z1] at z'; cases z')
          rw [z1] at z'; cases z'
          refine cE.bind e1 r1 (fun v' h' z' m2 H2 x2 g2 r2 e2 q2 => ?_) (fun n z' => by rw [z2] at z'; cases z')
          rw [z2] at z'; cases z'
          exact prs_read e2 r2 z3 fun m3 H3 xs g3 r3 q3 => q m3 H3 _ ((g1.trans g2).trans g3) r3 (.cons ⟨q1.grow (g2.trans g3), q2.grow g3⟩ q3)
theorem ppsC : ∀ {ks vs : List Expr} {fk fv : List Ee}, Paired (fun e f => PE X e (cE X.K cl fn f)) ks fk → Paired (fun e f => PE X e (cE X.K cl fn f)) vs fv → ks.length = vs.length → PPs X pos (ks.map some) vs ((fk.zip fv).map fun q => (cE X.K cl fn q.1, cE X.K cl fn q.2))
  | [], [], _, _, .nil, .nil, _ => pps_nil
  | [], _ :: _, _, _, _, _, h => by cases h
  | _ :: _, [], _, _, _, _, h => by cases h
  | _ :: _, _ :: _, _, _, .cons r t, .cons r2 t2, h => pps_cons r r2 (ppsC t t2 (Nat.succ.inj h))
/-- a dict's display -/
theorem pe_dctC (hw : fn.w = X.w) (hu : X.A.units + 64 < cLine) {ks vs : List Expr} {fk fv : List Ee} (hk : Paired (fun e f => PE X e (cE X.K cl fn f)) ks fk) (hv : Paired (fun e f => PE X e (cE X.K cl fn f)) vs fv) (hl : ks.length = vs.length) (h15 : ks.length ≤ 15) :
    PE X (.Dict (ks.map some) vs pos) (cE X.K cl fn ⟨eDct (fk.zip fv)⟩) := by
  cases hk with
  | nil =>
    cases vs with
    | cons _ _ => cases hl
    | nil =>
      refine pe_dnewK.of fun σ H Q ⟨m, env, h, e, r, k⟩ p hp => ?_
      have k : OkE X.K cl fn (match newOb (.dct Dd.nil) h with
        | .ok o h1 => match o with
          | .ref n => .ok (.ref n) h1
          | _ => .no 113
        | .no n => .no n) m H Q := k
      rcases newOb_or (.dct Dd.nil) h with ⟨z, hs⟩ | z
      · rw [z] at k
        obtain ⟨g, r1, ha⟩ := new_dct r hp hs
        exact k _ _ _ g r1 (.ref ha)
      · rw [z] at k; exact k.elim
  | @cons k0 f0 ks fk hk0 hks =>
    refine (pe_dispP hu (ppsC (.cons hk0 hks) hv hl) (by simp) (by simpa using hl) (by simp) (by simpa using h15)).of fun σ H Q ⟨m, env, h, e, r, k⟩ p hp => ?_
    generalize (f0 :: fk).zip fv = fs at k ⊢
    have k : OkE X.K cl fn (match newOb (.dct Dd.nil) h with
      | .ok o h1 => match o with
        | .ref n => match evPs fs env h1 with
          | .ok vs h2 => putAllD n vs h2
          | .no n => .no n
        | _ => .no 113
      | .no n => .no n) m H Q := k
    rcases newOb_or (.dct Dd.nil) h with ⟨z, hs⟩ | z
    · rw [z] at k
      obtain ⟨g, r1, ha⟩ := new_dct r hp hs
      have k : OkE X.K cl fn (match evPs fs env (h.new (.dct Dd.nil)) with
        | .ok vs h2 => putAllD h.nx vs h2
        | .no n => .no n) m H Q := k
      cases z2 : evPs fs env (h.new (.dct Dd.nil)) with
      | no c => rw [z2] at k; exact k.elim
      | ok ps h2 =>
        rw [z2] at k
        have k : OkE X.K cl fn (putAllD h.nx ps h2) m H Q := k
        refine prs_read (e.grow g) r1 z2 fun m2 H2 xs g2 r2 q2 => ?_
        cases z3 : putAllD h.nx ps h2 with
        | no c => rw [z3] at k; exact k.elim
        | ok v h3 =>
          rw [z3] at k
          rw [← hw]
          refine puts_read r2 (g2.at ha) q2 z3 fun ev H3 g3 r3 => ?_
          subst ev
          exact k m2 H3 _ ((g.trans g2).trans g3) r3 (.ref (g2.at ha))
    · rw [z] at k; exact k.elim
/-! by a loop -/
def dcEnd (n : Nat) (r : R (Lp Unit)) : R PV := match r with
  | .ok r h3 => match r with
    | .nx _ => .ok (.ref n) h3
    | _ => .no 111
  | .no n => .no n
theorem dc_read (hw : fn.w = X.w) {own : List Nat} {g : Tg} {ei : Ei} {fs : List Et} {fk fv : Ee} (hs : ∀ i ∈ g.slots, i ∈ own) {σ : L2.St} {H : Hp} {Q : VK} (w : cE X.K cl fn ⟨evDc0 own g ei fs fk fv⟩ σ H Q) :
    tDcP X (cI X.K cl fn ei) (cG X.K g) (cTs X.K cl fn fs) (cE X.K cl fn fk) (cE X.K cl fn fv) own σ H Q := by
  obtain ⟨m, env, h, e, r, k⟩ := w
  have k : OkE X.K cl fn (match ei.run env h with
    | .ok w h1 => match newOb (.dct Dd.nil) h1 with
      | .ok o h2 => match o with
        | .ref n => dcEnd n (walk w (dcTurn n g fs fk fv (wipeE env own)) () h2)
        | _ => .no 111
      | .no n => .no n
    | .no n => .no n) m H Q := k
  cases z : ei.run env h with
  | no n => rw [z] at k; exact k.elim
  | ok w h1 =>
    rw [z] at k
    refine ⟨m, env, h, e, r, ?_⟩
    rw [z]
    intro m1 H1 J g1 r1 ⟨SS, wk, st⟩ D hD
    have k : OkE X.K cl fn (match newOb (.dct Dd.nil) h1 with
      | .ok o h2 => match o with
        | .ref n => dcEnd n (walk w (dcTurn n g fs fk fv (wipeE env own)) () h2)
        | _ => .no 111
      | .no n => .no n) m H Q := k
    rcases newOb_or (.dct Dd.nil) h1 with ⟨zn, hsm⟩ | zn
    rotate_left
    · rw [zn] at k; exact k.elim
    rw [zn] at k
    obtain ⟨gn, rn, ha⟩ := new_dct r1 hD hsm
    have k : OkE X.K cl fn (dcEnd h1.nx (walk w (dcTurn h1.nx g fs fk fv (wipeE env own)) () (h1.new (.dct Dd.nil)))) m H Q := k
    rw [rem_walk] at k
    have g1n := g1.trans gn
    generalize h1.nx = n at k ha
    have k1 := OkE.mono g1n k
    refine ⟨fun i kk H => ∃ m2 a h2, Grow (m1 ++ [D]) (upd H1 D (.dK [])) m2 H ∧ HR X.K cl fn m2 H h2 ∧ SS kk i m2 H ∧ OkE X.K cl fn (dcEnd n (rem w (dcTurn n g fs fk fv (wipeE env own)) kk i a h2)) m2 H Q,
      ⟨w.size, m1 ++ [D], (), _, Grow.refl _ _, rn, wk.grow _ _ _ _ _ _ st gn.o, k1⟩, ?_⟩
    intro i kk H2 ⟨m2, a, h2, g2, r2, st2, k2⟩
    have ok : ∀ c, rem w (dcTurn n g fs fk fv (wipeE env own)) kk i a h2 ≠ .no c := fun c z => by rw [z] at k2; exact k2
    rcases wk.turn (dcTurn n g fs fk fv (wipeE env own)) kk i a h2 m2 H2 st2 r2 ok with ⟨hst, he⟩ | ⟨k', ek, st3, hgo, v, he, hy⟩
    · rw [he] at k2
      have k2 : OkE X.K cl fn (.ok (.ref n) h2) m2 H2 Q := k2
      exact .inl ⟨hst, k2.give r2 (.ref (g2.at ha))⟩
    · rw [he] at k2
      refine .inr ⟨hgo, fun H => ∃ m2 a h2, Grow (m1 ++ [D]) (upd H1 D (.dK [])) m2 H ∧ HR X.K cl fn m2 H h2 ∧ SS k' (i + 1) m2 H ∧ OkE X.K cl fn (dcEnd n (rem w (dcTurn n g fs fk fv (wipeE env own)) k' (i + 1) a h2)) m2 H Q,
        fun H' w' => ⟨k', by omega, w'⟩, fun x H' yl => ?_⟩
      obtain ⟨g3, r3, q3⟩ := hy x H' yl
      refine ⟨m2, wipeE env own, v, ((e.grow g1n).grow (g2.trans g3)).wipe own, q3, ?_⟩
      have k2 : OkE X.K cl fn (dcEnd n (turn (match stTg g v (wipeE env own) with
        | none => .no 112
        | some e1 => match evTs fs e1 h2 with
          | .ok b h1 => match b with
            | true => match fk.run e1 h1 with
              | .ok x h2 => match fv.run e1 h2 with
                | .ok y h3 => match putD n x y h3 with
                  | .ok _ h4 => .ok (.nx ()) h4
                  | .no n => .no n
                | .no n => .no n
              | .no n => .no n
            | false => .ok (.nx ()) h1
          | .no n => .no n) (rem w (dcTurn n g fs fk fv (wipeE env own)) k' (i + 1)))) m2 H2 Q := k2
      cases zt : stTg g v (wipeE env own) with
      | none => rw [zt] at k2; exact k2.elim
      | some e4 =>
        rw [zt] at k2
        intro σ4 q4 o4
        refine ⟨wipe_only o4 hs, m2, e4, h2, q4, r3, ?_⟩
        have k2 : OkE X.K cl fn (dcEnd n (turn (match evTs fs e4 h2 with
          | .ok b h1 => match b with
            | true => match fk.run e4 h1 with
              | .ok x h2 => match fv.run e4 h2 with
                | .ok y h3 => match putD n x y h3 with
                  | .ok _ h4 => .ok (.nx ()) h4
                  | .no n => .no n
                | .no n => .no n
              | .no n => .no n
            | false => .ok (.nx ()) h1
          | .no n => .no n) (rem w (dcTurn n g fs fk fv (wipeE env own)) k' (i + 1)))) m2 H2 Q := k2
        cases zb : evTs fs e4 h2 with
        | no c => rw [zb] at k2; exact k2.elim
        | ok b h5 =>
          rw [zb] at k2
          intro m5 H5 g5 r5
          have g35 := g3.trans g5
          cases b with
          | false =>
            rw [if_neg (by simp)]
            exact ⟨m5, (), h5, g2.trans g35, r5, wk.grow _ _ _ _ _ _ st3 g35.o, OkE.mono g35 k2⟩
          | true =>
            rw [if_pos rfl]
            have k2 : OkE X.K cl fn (dcEnd n (turn (match fk.run e4 h5 with
              | .ok x h2 => match fv.run e4 h2 with
                | .ok y h3 => match putD n x y h3 with
                  | .ok _ h4 => .ok (.nx ()) h4
                  | .no n => .no n
                | .no n => .no n
              | .no n => .no n) (rem w (dcTurn n g fs fk fv (wipeE env own)) k' (i + 1)))) m2 H2 Q := k2
            cases zk : fk.run e4 h5 with
            | no c => rw [zk] at k2; exact k2.elim
            | ok x6 h6 =>
              rw [zk] at k2
              refine cE.bind (q4.grow g5) r5 (fun v' h' z' m6 H6 y6 g6 r6 e6 q6 => ?_) (fun n z' => by rw [zk] at z'; cases z')
              rw [zk] at z'; cases z'
              have k2 : OkE X.K cl fn (dcEnd n (turn (match fv.run e4 h6 with
                | .ok y h3 => match putD n x6 y h3 with
                  | .ok _ h4 => .ok (.nx ()) h4
                  | .no n => .no n
                | .no n => .no n) (rem w (dcTurn n g fs fk fv (wipeE env own)) k' (i + 1)))) m2 H2 Q := k2
              cases zv : fv.run e4 h6 with
              | no c => rw [zv] at k2; exact k2.elim
              | ok x7 h7 =>
                rw [zv] at k2
                refine cE.bind e6 r6 (fun v' h' z' m7 H7 y7 g7 r7 e7 q7 => ?_) (fun n z' => by rw [zv] at z'; cases z')
                rw [zv] at z'; cases z'
                have k2 : OkE X.K cl fn (dcEnd n (turn (match putD n x6 x7 h7 with
                  | .ok _ h4 => .ok (.nx ()) h4
                  | .no n => .no n) (rem w (dcTurn n g fs fk fv (wipeE env own)) k' (i + 1)))) m2 H2 Q := k2
                cases zp : putD n x6 x7 h7 with
                | no c => rw [zp] at k2; exact k2.elim
                | ok x8 h8 =>
                  rw [zp] at k2
                  have g37 := (g35.trans g6).trans g7
                  obtain ⟨_, H8, dp, g8, r8⟩ := putD_ok r7 ((g2.trans g37).at ha) (q6.grow g7) q7 zp
                  rw [hw] at dp
                  have g38 := g37.trans g8
                  exact ⟨H8, dp, m7, (), h8, g2.trans g38, r8, wk.grow _ _ _ _ _ _ st3 g38.o, OkE.mono g38 k2⟩
theorem evDc_unl {own : List Nat} {g : Tg} {ei : Ei} {fs : List Et} {fk fv : Ee} (env : Env) (h : Hh) : (∃ w, evDc own g ei fs fk fv env h = unl h w (evDc0 own g ei fs fk fv env h)) ∨ ∃ n, evDc own g ei fs fk fv env h = .no n := by
  unfold evDc
  cases z : ei.run env h with
  | no n => exact .inr ⟨n, rfl⟩
  | ok w h1 =>
    refine .inl ⟨w, ?_⟩
    show unl h w (evDc0 own g ⟨fun _ _ => .ok w h1⟩ fs fk fv env h) = _
    congr 1
    unfold evDc0
    rw [z]
theorem pe_dcC (hw : fn.w = X.w) (hu : X.A.units + 64 < cLine) {kx vx tg iter : Expr} {ifs : List Expr} {scope : Scope} {own : List (Str × Nat)} {g : Tg} {ei : Ei} {fs : List Et} {fk fv : Ee} (hc : X.calm = true) (hN : X.N.Nodup) (hi : PI X tg iter (cI X.K cl fn ei)) (ok : BlkOk X.N X.env.scope scope own)
    (hg : ∀ (s : Shared) (H : Hp) (C : Addr) (cl : List (Str × Addr)) (fp : List Addr), PG (X.blk s H scope (compEnvC scope cl C X.env) fp) tg (cG X.K g)) (ht : ∀ (s : Shared) (H : Hp) (C : Addr) (cl' : List (Str × Addr)) (fp : List Addr), PTs (X.blk s H scope (compEnvC scope cl' C X.env) fp) ifs (cTs X.K cl fn fs))
    (hk : ∀ (s : Shared) (H : Hp) (C : Addr) (cl' : List (Str × Addr)) (fp : List Addr), PE (X.blk s H scope (compEnvC scope cl' C X.env) fp) kx (cE X.K cl fn fk))
    (he : ∀ (s : Shared) (H : Hp) (C : Addr) (cl' : List (Str × Addr)) (fp : List Addr), PE (X.blk s H scope (compEnvC scope cl' C X.env) fp) vx (cE X.K cl fn fv)) (hs : ∀ x, foldedSetIterable iter X.env x = pure x) (hsl : ∀ i ∈ g.slots, i ∈ own.map (·.2)) :
    PE X (.DictComp kx vx [⟨tg, iter, ifs, 0⟩] scope pos) (cE X.K cl fn ⟨evDc (own.map (·.2)) g ei fs fk fv⟩) :=
  pe_unlC ((pe_dcP hc hN hi ok hg ht hk he hs hu).of fun σ H Q w => dc_read hw hsl w) fun env h => evDc_unl env h
theorem ps_setDcC (hw : fn.w = X.w) (hu : X.A.units + 64 < cLine) {i : Nat} {y : Str} {py : Pos} {kx vx tg iter : Expr} {ifs : List Expr} {scope : Scope} {own : List (Str × Nat)} {spos : Pos} {g : Tg} {ei : Ei} {fs : List Et} {fk fv : Ee} (hc : X.calm = true) (hN : X.N.Nodup) (hy : X.N[i]? = some y) (hyl : X.env.scope.names.lookup y = some .local)
    (hsw : swapsWith (.DictComp kx vx [⟨tg, iter, ifs, 0⟩] scope pos) (some (.Name y py)) spos.line X.env = pure true) (hi : PI X tg iter (cI X.K cl fn ei)) (ok : BlkOk X.N X.env.scope scope own)
    (hg : ∀ (s : Shared) (H : Hp) (C : Addr) (cl : List (Str × Addr)) (fp : List Addr), PG (X.blk s H scope (compEnvC scope cl C X.env) fp) tg (cG X.K g)) (ht : ∀ (s : Shared) (H : Hp) (C : Addr) (cl' : List (Str × Addr)) (fp : List Addr), PTs (X.blk s H scope (compEnvC scope cl' C X.env) fp) ifs (cTs X.K cl fn fs))
    (hk : ∀ (s : Shared) (H : Hp) (C : Addr) (cl' : List (Str × Addr)) (fp : List Addr), PE (X.blk s H scope (compEnvC scope cl' C X.env) fp) kx (cE X.K cl fn fk))
    (he : ∀ (s : Shared) (H : Hp) (C : Addr) (cl' : List (Str × Addr)) (fp : List Addr), PE (X.blk s H scope (compEnvC scope cl' C X.env) fp) vx (cE X.K cl fn fv)) (hs : ∀ x, foldedSetIterable iter X.env x = pure x) (hsl : ∀ i ∈ g.slots, i ∈ own.map (·.2)) :
    PS X (.Assign [.Name y py] (.DictComp kx vx [⟨tg, iter, ifs, 0⟩] scope pos) spos) (cS X.K cl fn ⟨sAsg (.var i) ⟨evDc (own.map (·.2)) g ei fs fk fv⟩⟩) := by
  have h0 : PS X (.Assign [.Name y py] (.DictComp kx vx [⟨tg, iter, ifs, 0⟩] scope pos) spos) (cS X.K cl fn ⟨sAsg (.var i) ⟨evDc0 (own.map (·.2)) g ei fs fk fv⟩⟩) := by
    refine (ps_setDcP hc hN hy hyl hsw hi ok hg ht hk he hs hu).of fun D σ H ⟨m, env, h, e, r, k⟩ => ?_
    refine dc_read hw hsl ⟨m, env, h, e, r, ?_⟩
    have k : OkS X.K cl fn (match evDc0 (own.map (·.2)) g ei fs fk fv env h with
      | .ok v h1 => .ok (.nx (eset env i v)) h1
      | .no n => .no n) m H D := k
    show OkE X.K cl fn (evDc0 (own.map (·.2)) g ei fs fk fv env h) m H _
    cases z : evDc0 (own.map (·.2)) g ei fs fk fv env h with
    | no n => rw [z] at k; exact k
    | ok v h1 =>
      rw [z] at k
      exact fun m1 H1 x g1 r1 q => k m1 H1 g1 r1 _ ((e.grow g1).set q i)
  refine ps_unlC h0 fun env h => ?_
  show (∃ w, (match evDc (own.map (·.2)) g ei fs fk fv env h with
    | .ok v h1 => R.ok (Fl.nx (eset env i v)) h1
    | .no n => .no n) = unl h w (match evDc0 (own.map (·.2)) g ei fs fk fv env h with
    | .ok v h1 => R.ok (Fl.nx (eset env i v)) h1
    | .no n => .no n)) ∨ ∃ n, (match evDc (own.map (·.2)) g ei fs fk fv env h with
    | .ok v h1 => R.ok (Fl.nx (eset env i v)) h1
    | .no n => .no n) = .no n
  rcases evDc_unl (own := own.map (·.2)) (g := g) (ei := ei) (fs := fs) (fk := fk) (fv := fv) env h with ⟨w, q⟩ | ⟨n, q⟩
  · rw [q]
    refine .inl ⟨w, ?_⟩
    generalize evDc0 (own.map (·.2)) g ei fs fk fv env h = r
    cases w with
    | dct n xs =>
      cases r with
      | no c => rfl
      | ok a h1 =>
        simp only [unl]
        cases h.get n with
        | none => cases Nat.ble h.nx n <;> (cases h1.get n with
          | none => rfl
          | some ob => cases ob <;> rfl)
        | some ob =>
          cases ob <;> first | rfl | (cases h1.get n with
          | none => rfl
          | some ob => cases ob <;> rfl)
    | _ => cases r <;> rfl
  · rw [q]
    exact .inr ⟨n, rfl⟩
/-! ### list(d.items()) -/
/-- a new object, other new things beside it -/
theorem HR.newk {K : PySem.W.Frag} {m : List Addr} {H H' : Hp} {h : Hh} (r : HR K cl fn m H h) {p : Addr} {ob : Ob} (kp : ∀ b o, H b = some o → H' b = some o) (hp : H p = none) (hp' : H' p ≠ none) (hs : h.nx < 1000000000) (ho : OR K cl fn (m ++ [p]) H' p ob) :
    Grow m H (m ++ [p]) H' ∧ HR K cl fn (m ++ [p]) H' (h.new ob) := by
  have hpm : p ∉ m := fun z => r.all p z hp
  have g : Grow m H (m ++ [p]) H' := by
    refine ⟨⟨[p], rfl, fun a z => by rw [List.mem_singleton.mp z]; exact hp⟩, fun a xs e => kp a _ e, fun a o u e => kp a _ e, fun a e => ?_, fun a o e _ => kp a _ e⟩
    cases z : H a with
    | none => exact absurd z e
    | some o => rw [kp a o z]; simp
  refine ⟨g, by show h.nx + 1 = _; rw [List.length_append, r.nx]; rfl, by show h.nx + 1 ≤ _; omega, ?_, fun n o' e => ?_, fun n o' e => ?_, fun a ha => ?_⟩
  · rw [List.nodup_append]
    exact ⟨r.nd, (by simp), fun a ha b hb => by
      rw [List.mem_singleton] at hb
      rintro rfl
      exact hpm (hb ▸ ha)⟩
  · have hsm := r.small
    rw [Hh.get_new (by omega)] at e
    show n < h.nx + 1
    by_cases en : n = h.nx
    · omega
    · rw [if_neg en] at e
      have := r.free n o' e
      omega
  · have hsm := r.small
    rw [Hh.get_new (by omega)] at e
    by_cases en : n = h.nx
    · rw [if_pos en] at e
      cases e
      refine ⟨p, ?_, ho⟩
      rw [en, r.nx, List.getElem?_append_right (Nat.le_refl _)]
      simp
    · rw [if_neg en] at e
      obtain ⟨a, h1, h2⟩ := r.ob n o' e
      have ea : H' a = H a := by
        cases z : H a with
        | none => exact absurd z (r.all a (List.mem_of_getElem? h1))
        | some o => exact kp a o z
      exact ⟨a, g.at h1, OR.keep g.o ea h2⟩
  · rcases List.mem_append.mp ha with z | z
    · exact g.kept a (r.all a z)
    · rw [List.mem_singleton.mp z]; exact hp'
theorem tups_refs {K : PySem.W.Frag} {m : List Addr} {H : Hp} : ∀ {xs : List PV} {ps : List (V × V)} {ts : List Addr}, PsR K m H xs ps → Paired (fun (t : Addr) (q : V × V) => H t = some (.tup [q.1, q.2])) ts ps → VRs K m H xs (ts.map V.ref)
  | _, _, _, .nil, .nil => .nil
  | _, _, _, .cons ⟨k, v, e, h1, h2⟩ t, .cons r t2 => by
    subst e
    exact .cons (.tup (.inl (.inl r)) (.cons h1 (.cons h2 .nil))) (tups_refs t t2)
theorem pe_litemsC {e : Expr} {f : Ee} {p apos cpos pos : Pos} (hw : fn.w = X.w) (hc : X.calm = true) (he : PE X e (cE X.K cl fn f)) (hg : Gl X "list") (hm : X.mg "list" = none) (hbase : attributeBase e "items" X.env (eval e X.env) = eval e X.env) (hline : (apos.endLine == cpos.line) = true) :
    PE X (.Call (.Name "list" p) [.Call (.Attribute e "items" apos) [] [] cpos] [] pos) (cE X.K cl fn ⟨eBi .litems [f]⟩) := by
  refine (pe_listItemsD hc he hg hm (by decide +kernel) hbase hline).of fun σ H Q ⟨m, env, h, en, r, k⟩ => ?_
  have k : OkE X.K cl fn (match (match f.run env h with
    | .ok v h1 => R.ok [v] h1
    | .no n => .no n) with
    | .ok vs h1 => biV .litems vs h1
    | .no n => .no n) m H Q := k
  cases z : f.run env h with
  | no c => rw [z] at k; exact k.elim
  | ok v h1 =>
    rw [z] at k
    have k : OkE X.K cl fn (litemsV v h1) m H Q := k
    refine cE.bind en r (fun v' h' z' m1 H1 x g1 r1 e1 q1 => ?_) (fun n z' => by rw [z] at z'; cases z')
    rw [z] at z'; cases z'
    cases v with
    | ref n =>
      have k : OkE X.K cl fn (match ddOf h1 n with
        | some d => newOb (.lst (pairs d.kvs)) h1
        | none => .no 60) m H Q := k
      cases zd : ddOf h1 n with
      | none => rw [zd] at k; exact k.elim
      | some d =>
        rw [zd] at k
        obtain ⟨a, rfl, ha⟩ := q1.ref_inv
        obtain ⟨kvs, u, d1, d2, d3⟩ := r1.dd zd ha
        obtain ⟨ps, d4, d5⟩ := d3.dps
        rw [hw] at d4
        have k : OkE X.K cl fn (newOb (.lst (pairs d.kvs)) h1) m H Q := k
        rw [d1.kvs] at k
        obtain ⟨hsm, e2⟩ := newOb_eq (R := fun _ => True) k
        rw [e2] at k
        refine ⟨a, u, ps, rfl, d2, d4, fun H' p ts kp hp _ _ hl pr => ?_⟩
        have g0 : Gro m1 H1 (m1 ++ [p]) H' := ⟨fun n b hb => by rw [List.getElem?_append_left (List.getElem?_eq_some_iff.mp hb).1]; exact hb, fun b _ z => kp b _ z, fun b _ _ z => kp b _ z⟩
        obtain ⟨g2, r2⟩ := r1.newk (ob := .lst (pairs kvs)) kp hp (by rw [hl]; simp) hsm ⟨_, hl, tups_refs (PsR.gro g0 (pairsR d5)) pr⟩
        refine k _ _ _ (g1.trans g2) r2 (.ref ?_)
        rw [r1.nx, List.getElem?_append_right (Nat.le_refl _)]
        simp
    | _ => exact (show False from k).elim
end
end Ev

set_option Elab.async false
set_option linter.all false
set_option maxRecDepth 100000
/-! Ev14: built-in functions, methods of lists. -/
namespace Ev
open PySem PySem.Spec PyProof.Rows L2

section
variable {X : Cx} {cl : Nat → Addr} {fn : Nm} {pos : Pos}
/-- values, then by values -/
def LiV (K : PySem.W.Frag) (cl : Nat → Addr) (fn : Nm) (g : List PV → Hh → R PV) (r : List V → Hp → VK → Prop) : Prop :=
  ∀ m H h ps xs Q, HR K cl fn m H h → VRs K m H ps xs → OkE K cl fn (g ps h) m H Q → r xs H Q
theorem VRs.nil_inv {K : PySem.W.Frag} {m : List Addr} {H : Hp} {xs : List V} (r : VRs K m H [] xs) : xs = [] := by cases r; rfl
theorem VRs.one_inv {K : PySem.W.Frag} {m : List Addr} {H : Hp} {p : PV} {xs : List V} (r : VRs K m H [p] xs) : ∃ x, xs = [x] ∧ VR K m H p x := by
  cases r with
  | cons a b => cases b; exact ⟨_, rfl, a⟩
theorem VRs.two_inv {K : PySem.W.Frag} {m : List Addr} {H : Hp} {p q : PV} {xs : List V} (r : VRs K m H [p, q] xs) : ∃ x y, xs = [x, y] ∧ VR K m H p x ∧ VR K m H q y := by
  cases r with
  | cons a b => cases b with
    | cons c d => cases d; exact ⟨_, _, rfl, a, c⟩
/-- what a built-in's value is for -/
structure BiOk (X : Cx) (cl : Nat → Addr) (fn : Nm) (b : Bi) (f : Value) : Prop where
  ex : ∃ r, CallR X f r ∧ LiV X.K cl fn (biV b) r
  one : ∀ h, ∃ n, biV b [] h = .no n
/-- of one value -/
theorem li1 {K : PySem.W.Frag} {b : Bi} {r : List V → Hp → VK → Prop} (h2 : ∀ v w h, bi2 b v w h = .no 62) (h1 : ∀ m H h p x Q, HR K cl fn m H h → VR K m H p x → OkE K cl fn (bi1 b p h) m H Q → r [x] H Q) : LiV K cl fn (biV b) r := by
  intro m H h ps xs Q rr vs k
  match ps, vs, k with
  | [], _, k => exact (show False from k).elim
  | [v], vs, k => obtain ⟨x, rfl, vp⟩ := vs.one_inv; exact h1 m H h v x Q rr vp k
  | [v, w], _, k =>
    have k : OkE K cl fn (bi2 b v w h) m H Q := k
    rw [h2] at k; exact k.elim
  | _ :: _ :: _ :: _, _, k => exact (show False from k).elim
/-- of two values -/
theorem li2 {K : PySem.W.Frag} {b : Bi} {r : List V → Hp → VK → Prop} (h2 : ∀ v h, bi1 b v h = .no 62) (h1 : ∀ m H h p q x y Q, HR K cl fn m H h → VR K m H p x → VR K m H q y → OkE K cl fn (bi2 b p q h) m H Q → r [x, y] H Q) : LiV K cl fn (biV b) r := by
  intro m H h ps xs Q rr vs k
  match ps, vs, k with
  | [], _, k => exact (show False from k).elim
  | [v, w], vs, k => obtain ⟨x, y, rfl, vp, vq⟩ := vs.two_inv; exact h1 m H h v w x y Q rr vp vq k
  | [v], _, k =>
    have k : OkE K cl fn (bi1 b v h) m H Q := k
    rw [h2] at k; exact k.elim
  | _ :: _ :: _ :: _, _, k => exact (show False from k).elim
theorem bi_len : BiOk X cl fn .len (.builtin "len") := by
  refine ⟨⟨_, call_len, li1 (fun _ _ _ => rfl) fun m H h v x Q r vp k => ?_⟩, fun h => ⟨_, rfl⟩⟩
  cases v with
  | tup ps =>
    obtain ⟨a, vs, rfl, h1, h2⟩ := vp.tup_inv
    refine ⟨_, vs.length, rfl, .inr ⟨vs, h1, rfl⟩, ?_⟩
    rw [← h2.length]
    exact OkE.give k r (.int _)
  | str s =>
    have k : OkE X.K cl fn (match sizeOk s.cps.size with
      | true => .ok (.int s.cps.size) h
      | false => .no 50) m H Q := k
    cases vp
    cases z : sizeOk s.cps.size with
    | false => rw [z] at k; exact k.elim
    | true =>
      rw [z] at k
      exact ⟨_, _, rfl, ⟨sizeOk_le z, rfl⟩, OkE.give k r (.int _)⟩
  | fro ps =>
    obtain ⟨a, vs, rfl, h1, h2⟩ := vp.fro_inv
    refine ⟨_, vs.length, rfl, .inl ⟨vs, h1.sql, rfl⟩, ?_⟩
    rw [← h2.length]
    exact OkE.give (v := .int ps.length) k r (.int _)
  | ref n =>
    have k : OkE X.K cl fn (match lsOf h (.ref n) with
      | some xs => .ok (.int xs.length) h
      | none => .no 50) m H Q := k
    cases z : lsOf h (.ref n) with
    | some xs =>
      rw [z] at k
      obtain ⟨a, vs, rfl, h1, h2⟩ := lsOf_sql r vp z
      refine ⟨_, vs.length, rfl, .inl ⟨vs, h1, rfl⟩, ?_⟩
      rw [← h2.length]
      exact OkE.give k r (.int _)
    | none => rw [z] at k; exact k.elim
  | _ => exact (show False from k).elim
theorem bi_abs : BiOk X cl fn .abs (.builtin "abs") := by
  refine ⟨⟨_, call_abs, li1 (fun _ _ _ => rfl) fun m H h v x Q r vp k => ?_⟩, fun h => ⟨_, rfl⟩⟩
  cases v with
  | int i =>
    cases vp
    refine ⟨i, rfl, ?_⟩
    have e : (if i < 0 then -i else i) = (i.natAbs : Int) := by split <;> omega
    rw [e]
    exact OkE.give (v := .int i.natAbs) k r (.int _)
  | _ => exact (show False from k).elim
theorem bi_int : BiOk X cl fn .int (.type "int") := by
  refine ⟨⟨_, call_int1, li1 (fun _ _ _ => rfl) fun m H h v x Q r vp k => ?_⟩, fun h => ⟨_, rfl⟩⟩
  cases v with
  | int i =>
    cases vp
    exact .inl ⟨i, rfl, OkE.give (v := .int i) k r (.int _)⟩
  | bl b =>
    cases vp
    refine .inr ⟨b, rfl, ?_⟩
    rw [← b2n_if]
    exact OkE.give (v := .int (b2n b)) k r (.int _)
  | _ => exact (show False from k).elim
/-- a row that is read -/
theorem items_ok {K : PySem.W.Frag} {m : List Addr} {H : Hp} {h : Hh} {p : PV} {x : V} {ps : List PV} (r : HR K cl fn m H h) (q : VR K m H p x) (e : itemsOf p h = some ps) : ∃ a vs, x = .ref a ∧ (SqL K H a vs ∨ SqT K H a vs) ∧ VRs K m H ps vs := by
  have lst : ∀ {p : PV}, VR K m H p x → lsOf h p = some ps → ∃ a vs, x = .ref a ∧ (SqL K H a vs ∨ SqT K H a vs) ∧ VRs K m H ps vs := fun {p} q e => by
    obtain ⟨a, vs, h0, h1, h2⟩ := lsOf_sql r q e
    exact ⟨a, vs, h0, .inl h1, h2⟩
  cases p with
  | tup xs =>
    cases e
    obtain ⟨a, vs, h0, h1, h2⟩ := q.tup_inv
    exact ⟨a, vs, h0, .inr h1, h2⟩
  | _ => exact lst q e
theorem or_call {f : Value} {r1 r2 : List V → Hp → VK → Prop} (h1 : CallR X f r1) (h2 : CallR X f r2) : CallR X f (fun xs H Q => r1 xs H Q ∨ r2 xs H Q) := by
  intro pins s σ H xs us Q I r h
  rcases h with h | h
  · exact h1 pins s σ H xs us Q I r h
  · exact h2 pins s σ H xs us Q I r h
/-- a dict's keys and values, in the layer -/
theorem dOf_ok {K : PySem.W.Frag} {m : List Addr} {H : Hp} {h : Hh} {p : PV} {x : V} {d : Dd} (r : HR K cl fn m H h) (q : VR K m H p x) (e : dOf p h = some d) : ∃ a kvs u ps, x = .ref a ∧ DR d kvs ∧ Rd H a u ∧ DPs fn.w a u ps ∧ Paired (fun (q : PV × PV) (p : V × V) => VR K m H q.1 p.1 ∧ VR K m H q.2 p.2) kvs ps := by
  cases p with
  | ref n =>
    obtain ⟨a, rfl, ha⟩ := q.ref_inv
    obtain ⟨kvs, u, h1, h2, h3⟩ := r.dd e ha
    obtain ⟨ps, h4, h5⟩ := h3.dps
    exact ⟨a, kvs, u, ps, rfl, h1, h2, h4, h5⟩
  | _ => cases e
theorem bi_list (hw : fn.w = X.w) (hc : X.calm = true) : BiOk X cl fn .list (.type "list") := by
  refine ⟨⟨_, or_call call_list_of (call_list_dD hc), li1 (fun _ _ _ => rfl) fun m H h v x Q r vp k => ?_⟩, fun h => ⟨_, rfl⟩⟩
  have k : OkE X.K cl fn (match itemsOf v h with
    | some xs => newOb (.lst xs) h
    | none => match dOf v h with
      | some d => newOb (.lst d.ks.reverse) h
      | none => .no 51) m H Q := k
  cases z : itemsOf v h with
  | some ps =>
    rw [z] at k
    obtain ⟨a, ws, rfl, h1, h2⟩ := items_ok r vp z
    exact .inl ⟨a, ws, rfl, h1, fun l hl => OkE.lst k r h2 hl⟩
  | none =>
    rw [z] at k
    have k : OkE X.K cl fn (match dOf v h with
      | some d => newOb (.lst d.ks.reverse) h
      | none => .no 51) m H Q := k
    cases z2 : dOf v h with
    | none => rw [z2] at k; exact k.elim
    | some d =>
      rw [z2] at k
      obtain ⟨a, kvs, u, ps, rfl, h1, h2, h3, h4⟩ := dOf_ok r vp z2
      rw [hw] at h3
      have k : OkE X.K cl fn (newOb (.lst d.ks.reverse) h) m H Q := k
      rw [h1.ks] at k
      exact .inr ⟨a, u, ps, rfl, h2, h3, fun l hl => OkE.lst k r (keysR h4) hl⟩
theorem bi_tuple : BiOk X cl fn .tuple (.type "tuple") := by
  refine ⟨⟨_, call_tuple_of, li1 (fun _ _ _ => rfl) fun m H h v x Q r vp k => ?_⟩, fun h => ⟨_, rfl⟩⟩
  have k : OkE X.K cl fn (match itemsOf v h with
    | some xs => .ok (.tup xs) h
    | none => .no 52) m H Q := k
  cases z : itemsOf v h with
  | some ps =>
    rw [z] at k
    obtain ⟨a, ws, rfl, h1, h2⟩ := items_ok r vp z
    rcases h1 with h1 | h1
    · exact ⟨a, ws, rfl, .inl ⟨h1, fun l hl => OkE.tup k r h2 hl⟩⟩
    · exact ⟨a, ws, rfl, .inr ⟨h1, OkE.give k r (.tup h1 h2)⟩⟩
  | none => rw [z] at k; exact k.elim
theorem bi_min2 (hc : X.calm = true) : BiOk X cl fn .min2 (.builtin "min") := by
  refine ⟨⟨_, call_min2 hc, li2 (fun _ _ => rfl) fun m H h p q x y Q r vp vq k => ?_⟩, fun h => ⟨_, rfl⟩⟩
  cases p with
  | int i =>
    cases q with
    | int j =>
      cases vp; cases vq
      have k : OkE X.K cl fn (.ok (.int (match intLt j i with | true => j | false => i)) h) m H Q := k
      refine ⟨i, j, rfl, ?_⟩
      have e : (if j < i then j else i) = (match intLt j i with | true => j | false => i) := by
        rw [intLt_ok]
        by_cases hj : j < i
        · rw [if_pos hj, decide_eq_true hj]
        · rw [if_neg hj, decide_eq_false hj]
      rw [e]
      exact k.give r (.int _)
    | _ => exact (show False from k).elim
  | _ => exact (show False from k).elim
theorem bi_max2 (hc : X.calm = true) : BiOk X cl fn .max2 (.builtin "max") := by
  refine ⟨⟨_, call_max2 hc, li2 (fun _ _ => rfl) fun m H h p q x y Q r vp vq k => ?_⟩, fun h => ⟨_, rfl⟩⟩
  cases p with
  | int i =>
    cases q with
    | int j =>
      cases vp; cases vq
      have k : OkE X.K cl fn (.ok (.int (match intLt i j with | true => j | false => i)) h) m H Q := k
      refine ⟨i, j, rfl, ?_⟩
      have e : (if j > i then j else i) = (match intLt i j with | true => j | false => i) := by
        rw [intLt_ok]
        by_cases hj : i < j
        · rw [if_pos hj, decide_eq_true hj]
        · rw [if_neg hj, decide_eq_false hj]
      rw [e]
      exact k.give r (.int _)
    | _ => exact (show False from k).elim
  | _ => exact (show False from k).elim
/-! the call -/
theorem stars_no : ∀ {es : List Expr} (env : PySem.Env), anyStar es = false → (starEach es env).any (·.1) = false
  | [], _, _ => rfl
  | e :: es, env, h => by
    have h : (match isStar e with
      | true => true
      | false => anyStar es) = false := h
    cases z : isStar e with
    | true => rw [z] at h; cases h
    | false =>
      rw [z] at h
      rw [star_no z]
      exact stars_no env h
theorem back_any (pos : Pos) : ∀ (l : List (Bool × Sem Value)), (backTo pos l).any (·.1) = l.any (·.1)
  | [] => rfl
  | a :: l => by
    show (a.1 || (backTo pos l).any (·.1)) = (a.1 || l.any (·.1))
    rw [back_any pos l]
theorem anyStar_cons {e : Expr} {es : List Expr} (h : anyStar (e :: es) = false) : isStar e = false ∧ anyStar es = false := by
  have h : (match isStar e with
    | true => true
    | false => anyStar es) = false := h
  cases z : isStar e with
  | true => rw [z] at h; cases h
  | false => rw [z] at h; exact ⟨rfl, h⟩
theorem cL_bind {fs : List Ee} {g : List PV → Hh → R PV} {r : List V → Hp → VK → Prop} (ok : LiV X.K cl fn g r) {σ : L2.St} {H : Hp} {Q : VK} {f : Ee} (hf : ∀ env h, f.run env h = match evL fs env h with
      | .ok vs h1 => g vs h1
      | .no n => .no n) (w : cE X.K cl fn f σ H Q) : cL X.K cl fn fs σ H fun vs H1 => r vs H1 Q := by
  obtain ⟨m, env, h, e, rr, k⟩ := w
  rw [hf] at k
  cases z : evL fs env h with
  | no n => rw [z] at k; exact k.elim
  | ok vs h1 =>
    rw [z] at k
    refine cL.bind e rr (fun vs' h1' z' m1 H1 xs g1 r1 _ q => ?_) (fun n z' => by rw [z] at z'; cases z')
    rw [z] at z'; cases z'
    exact ok m1 H1 h1 vs xs Q r1 q (OkE.mono g1 k)
theorem pe_biC {x : Str} {p : Pos} {es : List Expr} {fs : List Ee} {b : Bi} {f : Value} (hb : BiOk X cl fn b f) (hf : (∃ id, f = .builtin id) ∨ ∃ T, f = .type T) (hg : Gl X x) (hm : X.mg x = none) (hv : bootBuiltins x = some f) (hn : x ≠ "__name__") (hdb : (x == ("__debug__" : Str)) = false)
    (hs : anyStar es = false) (ha : PA X es (cL X.K cl fn fs)) (hfs : fs.length = es.length) : PE X (.Call (.Name x p) es [] pos) (cE X.K cl fn ⟨eBi b fs⟩) := by
  obtain ⟨r, h1, h2⟩ := hb.ex
  cases es with
  | nil =>
    cases fs with
    | cons _ _ => cases hfs
    | nil =>
      refine ⟨fun pins s σ H Q I ⟨m, env, h, e, rr, k⟩ => ?_⟩
      obtain ⟨n, en⟩ := hb.one h
      have k : OkE X.K cl fn (biV b [] h) m H Q := k
      rw [en] at k
      exact k.elim
  | cons e es =>
    obtain ⟨s1, s2⟩ := anyStar_cons hs
    have he := star_no (es := es) (env := X.env) s1
    have hpl : (backTo pos (starEach es X.env)).any (·.1) = false := by rw [back_any, stars_no _ s2]
    rcases hf with ⟨id, rfl⟩ | ⟨T, rfl⟩
    · exact (pe_callB h1 hg hm hv ha hn hdb he hpl).of fun σ H Q w => cL_bind h2 (fun _ _ => rfl) w
    · exact (pe_callTy h1 hg hm hv ha hn hdb he hpl).of fun σ H Q w => cL_bind h2 (fun _ _ => rfl) w
end
end Ev

set_option Elab.async false
set_option linter.all false
set_option maxRecDepth 100000
/-! EvS: order and sorting of data of one shape; sums, any, all. -/
namespace Ev
open PySem PySem.Spec PyProof.Rows L2
open PySem.W (alike alikeAll dataLt dataLe dataLe_eq alike_comm AllAlike Sortable TotalLe sameRank sort_unique sortLe_total sort_each EachIs sorted_data lt_data gt_data le_data ge_data)

/-! ### insertion sort -/
theorem ins_mem {α : Type} {lt : α → α → Bool} {a y : α} : ∀ {l : List α}, y ∈ ins lt a l ↔ y = a ∨ y ∈ l
  | [] => by simp [ins]
  | x :: xs => by
    unfold ins
    cases lt x a with
    | false => simp
    | true => simp only [List.mem_cons, ins_mem (l := xs)]; constructor <;> (intro h; rcases h with h | h | h <;> simp [h])
theorem isort_mem {α : Type} {lt : α → α → Bool} {y : α} : ∀ {l : List α}, y ∈ isort lt l ↔ y ∈ l
  | [] => Iff.rfl
  | x :: xs => by
    show y ∈ ins lt x (isort lt xs) ↔ _
    rw [ins_mem, isort_mem (l := xs), List.mem_cons]
theorem ins_len {α : Type} {lt : α → α → Bool} {a : α} : ∀ {l : List α}, (ins lt a l).length = l.length + 1
  | [] => rfl
  | x :: xs => by
    unfold ins
    cases lt x a with
    | false => rfl
    | true => show (ins lt a xs).length + 1 = _; rw [ins_len]; rfl
theorem isort_len {α : Type} {lt : α → α → Bool} : ∀ {l : List α}, (isort lt l).length = l.length
  | [] => rfl
  | x :: xs => by
    show (ins lt x (isort lt xs)).length = _
    rw [ins_len, isort_len (l := xs)]; rfl
theorem ins_congr {α : Type} {lt lt' : α → α → Bool} {a : α} : ∀ {l : List α}, (∀ x ∈ l, lt x a = lt' x a) → ins lt a l = ins lt' a l
  | [], _ => rfl
  | x :: xs, h => by
    unfold ins
    rw [h x (List.mem_cons_self ..), ins_congr (l := xs) fun y hy => h y (List.mem_cons_of_mem _ hy)]
theorem isort_congr {α : Type} {lt lt' : α → α → Bool} : ∀ {l : List α}, (∀ x ∈ l, ∀ y ∈ l, lt x y = lt' x y) → isort lt l = isort lt' l
  | [], _ => rfl
  | x :: xs, h => by
    show ins lt x (isort lt xs) = ins lt' x (isort lt' xs)
    rw [← isort_congr (l := xs) fun a ha b hb => h a (List.mem_cons_of_mem _ ha) b (List.mem_cons_of_mem _ hb)]
    exact ins_congr fun y hy => h y (List.mem_cons_of_mem _ (isort_mem.mp hy)) x (List.mem_cons_self ..)
section
variable {α : Type} {le lt : α → α → Bool}
theorem ins_sorted (t : TotalLe le) (hlt : ∀ a b, lt a b = !le b a) {a : α} : ∀ {l : List α}, l.Pairwise (fun a b => le a b = true) → (ins lt a l).Pairwise (fun a b => le a b = true)
  | [], _ => by simp [ins]
  | x :: xs, h => by
    unfold ins
    cases z : lt x a with
    | false =>
      rw [hlt] at z
      have z : le a x = true := by simpa using z
      rw [List.pairwise_cons]
      refine ⟨fun y hy => ?_, h⟩
      rcases List.mem_cons.mp hy with e | hy
      · rw [e]; exact z
      · exact t.trans _ _ _ z ((List.pairwise_cons.mp h).1 y hy)
    | true =>
      rw [hlt] at z
      have z : le a x = false := by simpa using z
      have z2 : le x a = true := by
        rcases t.total a x with q | q
        · rw [z] at q; cases q
        · exact q
      rw [List.pairwise_cons] at h
      simp only []
      rw [List.pairwise_cons]
      refine ⟨fun y hy => ?_, ins_sorted t hlt h.2⟩
      rcases ins_mem.mp hy with e | hy
      · rw [e]; exact z2
      · exact h.1 y hy
theorem ins_filter (t : TotalLe le) (hlt : ∀ a b, lt a b = !le b a) {a c : α} : ∀ {l : List α}, (ins lt a l).filter (sameRank le c) = (a :: l).filter (sameRank le c)
  | [] => rfl
  | x :: xs => by
    unfold ins
    cases z : lt x a with
    | false => rfl
    | true =>
      rw [hlt] at z
      have z : le a x = false := by simpa using z
      simp only []
      rw [List.filter_cons, ins_filter t hlt (l := xs), List.filter_cons, List.filter_cons, List.filter_cons]
      cases ha : sameRank le c a with
      | false => simp
      | true =>
        have hx : sameRank le c x = false := by
          cases hx : sameRank le c x with
          | false => rfl
          | true =>
            have h1 : le a c = true := (Bool.and_eq_true_iff.mp ha).2
            have h2 : le c x = true := (Bool.and_eq_true_iff.mp hx).1
            rw [t.trans _ _ _ h1 h2] at z
            cases z
        rw [hx]
        simp
theorem isort_merge (t : TotalLe le) (hlt : ∀ a b, lt a b = !le b a) (l : List α) : isort lt l = l.mergeSort le := by
  refine sort_unique t ?_ fun c => ?_
  · induction l with
    | nil => exact List.Pairwise.nil
    | cons x xs ih => exact ins_sorted t hlt ih
  · induction l with
    | nil => rfl
    | cons x xs ih =>
      show (ins lt x (isort lt xs)).filter _ = _
      rw [ins_filter t hlt, List.filter_cons, List.filter_cons, ih]
end
/-! ### sorted(xs) -/
section
variable {X : Cx} {cl : Nat → Addr} {fn : Nm} {pos : Pos}
def rSortedD (K : PySem.W.Frag) : List V → Hp → VK → Prop := fun vs H Q => ∃ (a : Addr) (bs : List (V × PyData)), vs = [V.ref a] ∧ SqL K H a (bs.map (·.1)) ∧ (∀ b ∈ bs, Dp K H b.1 b.2) ∧ AllAlike (bs.map (·.2)) ∧ Sortable (bs.map (·.2)) ∧ bs.length ≤ sizeLine ∧ (∀ b ∈ bs, b.2.depth ≤ 50) ∧
  ∀ p, H p = none → Q (.ref p) (upd H p (.lst ((bs.mergeSort (dataLe false (·.2))).map (·.1))))
theorem each_vals : ∀ {bs : List (V × PyData)} {us : List Value}, Vals (bs.map (·.1)) us → EachIs (fun (u : Value) (b : V × PyData) => RelV b.1 u) us bs
  | [], _, .nil => .nil
  | _ :: _, _, .cons r t => .cons r (each_vals t)
theorem vals_each : ∀ {bs : List (V × PyData)} {us : List Value}, EachIs (fun (u : Value) (b : V × PyData) => RelV b.1 u) us bs → Vals (bs.map (·.1)) us
  | _, _, .nil => .nil
  | _, _, .cons r t => .cons r (vals_each t)
theorem each_and {α β : Type} {R S : α → β → Prop} : ∀ {as : List α} {bs : List β}, EachIs R as bs → (∀ a b, b ∈ bs → R a b → S a b) → EachIs S as bs
  | _, _, .nil, _ => .nil
  | _, _, .cons r t, h => .cons (h _ _ (List.mem_cons_self ..) r) (each_and t fun a b hb => h a b (List.mem_cons_of_mem _ hb))
theorem cr_sortedD (hu : X.A.units + 64 < cLine) : CallR X (.builtin "sorted") (rSortedD X.K) := by
  intro pins s σ H vs us Q I r h
  obtain ⟨a, bs, rfl, hs, hd, hal, hk, hz, hdp, q⟩ := h
  obtain ⟨its, rv, hl, hzl⟩ := I.list hs
  rw [Vals.ref1 r]
  have e := each_vals rv
  refine sorted_data (enc := (·.2)) hl.isList e (each_and e fun u b hb rb => Dp.reads I b.2 b.1 u (hd b hb) rb) hal hk hz (fun b hb => by have := hdp b hb; omega) fun out hlen ho => ?_
  obtain ⟨ep, he'⟩ := PyProof.Rows.sortedAll_at s.heap its (List.toArray out)
  have hlen2 : ((bs.mergeSort (dataLe false (·.2))).map (·.1)).length ≤ sizeLine := by rw [List.length_map, List.length_mergeSort]; exact hz
  exact ⟨.ref _, upd H (s.heap.objs.size + 1) (.lst ((bs.mergeSort (dataLe false (·.2))).map (·.1))), I.laid (t' := s.toks) (fun _ _ => PyProof.Rows.sortedAll_old) (Nat.le_succ _) ⟨hlen2, out, ep, vals_each ho, he'⟩, rfl, q _ (I.hok.fresh (Nat.le_succ _))⟩
/-- items with what they stand for -/
noncomputable def tagB (h : Hh) : List PV → List V → List (V × PyData)
  | p :: ps, v :: vs => (v, toD h dpS p) :: tagB h ps vs
  | _, _ => []
theorem tagB_fst {K : PySem.W.Frag} {m : List Addr} {H : Hp} {h : Hh} : ∀ {ps : List PV} {vs : List V}, VRs K m H ps vs → (tagB h ps vs).map (·.1) = vs
  | _, _, .nil => rfl
  | _, _, .cons _ t => congrArg (List.cons _) (tagB_fst t)
theorem tag_each {K : PySem.W.Frag} {m : List Addr} {H : Hp} {h : Hh} : ∀ {ps : List PV} {vs : List V}, VRs K m H ps vs → EachIs (fun (p : PV) (b : V × PyData) => VR K m H p b.1 ∧ b.2 = toD h dpS p) ps (tagB h ps vs)
  | _, _, .nil => .nil
  | _, _, .cons r t => .cons ⟨r, rfl⟩ (tag_each t)
/-- the values and what stands for them, sorted alike -/
theorem sort_vrs {K : PySem.W.Frag} {m : List Addr} {H : Hp} {h : Hh} {s : Sg} {ps : List PV} {vs : List V} (q : VRs K m H ps vs) (hc : ∀ p ∈ ps, conf dpS s p = true) :
    VRs K m H (isort (ltP dpS) ps) (((tagB h ps vs).mergeSort (dataLe false (·.2))).map (·.1)) := by
  let le : PV → PV → Bool := dataLe false (toD h dpS)
  have tl : TotalLe le := sortLe_total _ _ _
  have e1 : isort (ltP dpS) ps = ps.mergeSort le := by
    rw [← isort_merge (lt := fun a b => !le b a) tl (fun _ _ => rfl) ps]
    refine isort_congr fun x hx y hy => ?_
    rw [conf_lt (h := h) dpS s x y (hc x hx) (hc y hy)]
    show _ = !(!dataLt (toD h dpS x) (toD h dpS y))
    rw [Bool.not_not]
  rw [e1]
  have e2 : EachIs (fun (p : PV) (b : V × PyData) => VR K m H p b.1 ∧ b.2 = toD h dpS p) ps (tagB h ps vs) := by
    exact tag_each q
  have e3 := sort_each (r := le) (s := dataLe false (·.2)) e2 fun p hp q hq => by
    have h1 := (e2.zip p hp).2
    have h2 := (e2.zip q hq).2
    show dataLe false (toD h dpS) p.1 q.1 = dataLe false (·.2) p.2 q.2
    show (!dataLt (toD h dpS q.1) (toD h dpS p.1)) = (!dataLt q.2.2 p.2.2)
    rw [h1, h2]
  have fin : ∀ {as : List PV} {bs : List (V × PyData)}, EachIs (fun (p : PV) (b : V × PyData) => VR K m H p b.1 ∧ b.2 = toD h dpS p) as bs → VRs K m H as (bs.map (·.1)) := by
    intro as bs z
    induction z with
    | nil => exact .nil
    | cons r _ ih => exact .cons r.1 ih
  exact fin e3
theorem allP_mem {f : PV → Bool} : ∀ {xs : List PV}, allP f xs = true → ∀ x ∈ xs, f x = true
  | [], _, _, h => by cases h
  | y :: ys, e, x, h => by
    obtain ⟨e1, e2⟩ := allP_cons e
    rcases List.mem_cons.mp h with z | h
    · rw [z]; exact e1
    · exact allP_mem e2 x h
theorem tagB_mem {K : PySem.W.Frag} {m : List Addr} {H : Hp} {h : Hh} : ∀ {ps : List PV} {vs : List V}, VRs K m H ps vs → ∀ b ∈ tagB h ps vs, ∃ p ∈ ps, VR K m H p b.1 ∧ b.2 = toD h dpS p
  | _, _, .nil, b, hb => by cases hb
  | _, _, .cons r t, b, hb => by
    rcases List.mem_cons.mp hb with z | hb
    · rw [z]; exact ⟨_, List.mem_cons_self .., r, rfl⟩
    · obtain ⟨p, h1, h2⟩ := tagB_mem t b hb
      exact ⟨p, List.mem_cons_of_mem _ h1, h2⟩
theorem bi_sorted (hu : X.A.units + 64 < cLine) : BiOk X cl fn .sorted (.builtin "sorted") := by
  refine ⟨⟨_, cr_sortedD hu, li1 (fun _ _ _ => rfl) fun m H h v x Q r vp k => ?_⟩, fun h => ⟨_, rfl⟩⟩
  have k : OkE X.K cl fn (match lsOf h v with
    | some xs => match canSort xs && sizeOk xs.length with
      | true => newOb (.lst (isort (ltP dpS) xs)) h
      | false => .no 53
    | none => .no 53) m H Q := k
  cases z : lsOf h v with
  | none => rw [z] at k; exact k.elim
  | some xs =>
    rw [z] at k
    have k : OkE X.K cl fn (match canSort xs && sizeOk xs.length with
      | true => newOb (.lst (isort (ltP dpS) xs)) h
      | false => .no 53) m H Q := k
    cases zc : canSort xs && sizeOk xs.length with
    | false => rw [zc] at k; exact k.elim
    | true =>
      rw [zc] at k
      obtain ⟨zc1, zc2⟩ := Bool.and_eq_true_iff.mp zc
      obtain ⟨c1, c2⟩ := Bool.and_eq_true_iff.mp zc1
      obtain ⟨a, vs, rfl, h1, h2⟩ := lsOf_sql r vp z
      have hcf := allP_mem c2
      have mem := tagB_mem (h := h) h2
      have al : ∀ d ∈ (tagB h xs vs).map (·.2), ∃ p ∈ xs, d = toD h dpS p := fun d hd => by
        obtain ⟨b, hb, rfl⟩ := List.mem_map.mp hd
        obtain ⟨p, hp, _, e⟩ := mem b hb
        exact ⟨p, hp, e⟩
      refine ⟨a, tagB h xs vs, rfl, by rw [tagB_fst h2]; exact h1, fun b hb => ?_, fun d hd d' hd' => ?_, ?_, ?_, fun b hb => ?_, fun p hp => ?_⟩
      · obtain ⟨p, hp, q1, q2⟩ := mem b hb
        rw [q2]
        exact dp_ok r dpS p b.1 (conf_data dpS _ p (hcf p hp)) q1
      · obtain ⟨p, hp, rfl⟩ := al d hd
        obtain ⟨p', hp', rfl⟩ := al d' hd'
        exact conf_alike dpS _ p p' (hcf p hp) (hcf p' hp')
      · rcases Bool.or_eq_true_iff.mp c1 with c1 | c1
        · refine .inl fun d hd => ?_
          obtain ⟨p, hp, rfl⟩ := al d hd
          have := allP_mem c1 p hp
          cases p with
          | tup ys =>
            cases ys with
            | nil => cases this
            | cons y ys => exact ⟨_, _, rfl⟩
          | _ => cases this
        · refine .inr fun d hd => ?_
          obtain ⟨p, hp, rfl⟩ := al d hd
          have h3 := allP_mem c1 p hp
          have h4 := hcf p hp
          generalize shpOf dpS xs = s at h4
          cases p with
          | tup ys => cases h3
          | non => cases h3
          | fro _ => cases s <;> cases h4
          | ref _ => cases s <;> cases h4
          | _ => exact ⟨(by intro e; cases e), (by intro ys e; cases e)⟩
      · have := congrArg List.length (tagB_fst (h := h) h2)
        rw [List.length_map] at this
        rw [this, ← h2.length]
        exact sizeOk_le zc2
      · obtain ⟨p, hp, _, e⟩ := mem b hb
        rw [e]
        exact Nat.le_trans (depth_ok h dpS p) (by decide)
      · exact OkE.lst k r (sort_vrs h2 hcf) hp
/-! ### any, all, sum, max -/
theorem blsV_ok {K : PySem.W.Frag} {m : List Addr} {H : Hp} : ∀ {ps : List PV} {vs : List V} {bs : List Bool}, VRs K m H ps vs → blsV ps = some bs → vs = bs.map V.bl
  | _, _, _, .nil, e => by cases e; rfl
  | p :: ps, _, bs, .cons r t, e => by
    cases p with
    | bl b =>
      cases r
      have e : (match blsV ps with
        | some bs => some (b :: bs)
        | none => none) = some bs := e
      cases z : blsV ps with
      | none => rw [z] at e; cases e
      | some bs' =>
        rw [z] at e
        cases e
        rw [blsV_ok t z]; rfl
    | _ => cases e
theorem anyB_eq : ∀ bs : List Bool, anyB bs = bs.any id
  | [] => rfl
  | true :: _ => rfl
  | false :: r => by
    show anyB r = _
    rw [anyB_eq r]; rfl
theorem allB_eq : ∀ bs : List Bool, allB bs = bs.all id
  | [] => rfl
  | false :: _ => rfl
  | true :: r => by
    show allB r = _
    rw [allB_eq r]; rfl
theorem bi_any (hc : X.calm = true) : BiOk X cl fn .any (.builtin "any") := by
  refine ⟨⟨_, cr_any hc, li1 (fun _ _ _ => rfl) fun m H h v x Q r vp k => ?_⟩, fun h => ⟨_, rfl⟩⟩
  have k : OkE X.K cl fn (match lsOf h v with
    | some xs => match (match blsV xs with
      | some bs => some (anyB bs)
      | none => none) with
      | some r => .ok (.bl r) h
      | none => .no 56
    | none => .no 56) m H Q := k
  cases z : lsOf h v with
  | none => rw [z] at k; exact k.elim
  | some xs =>
    obtain ⟨a, vs, rfl, h1, h2⟩ := lsOf_sql r vp z
    rw [z] at k
    have k : OkE X.K cl fn (match (match blsV xs with
      | some bs => some (anyB bs)
      | none => none) with
      | some r => .ok (.bl r) h
      | none => .no 56) m H Q := k
    cases zb : blsV xs with
    | none => rw [zb] at k; exact k.elim
    | some bs =>
      rw [zb] at k
      have k : OkE X.K cl fn (.ok (.bl (anyB bs)) h) m H Q := k
      rw [anyB_eq] at k
      exact ⟨a, bs, rfl, by rw [← blsV_ok h2 zb]; exact h1, k.give r (.bl _)⟩
theorem bi_all (hc : X.calm = true) : BiOk X cl fn .all (.builtin "all") := by
  refine ⟨⟨_, cr_all hc, li1 (fun _ _ _ => rfl) fun m H h v x Q r vp k => ?_⟩, fun h => ⟨_, rfl⟩⟩
  have k : OkE X.K cl fn (match lsOf h v with
    | some xs => match (match blsV xs with
      | some bs => some (allB bs)
      | none => none) with
      | some r => .ok (.bl r) h
      | none => .no 57
    | none => .no 57) m H Q := k
  cases z : lsOf h v with
  | none => rw [z] at k; exact k.elim
  | some xs =>
    obtain ⟨a, vs, rfl, h1, h2⟩ := lsOf_sql r vp z
    rw [z] at k
    have k : OkE X.K cl fn (match (match blsV xs with
      | some bs => some (allB bs)
      | none => none) with
      | some r => .ok (.bl r) h
      | none => .no 57) m H Q := k
    cases zb : blsV xs with
    | none => rw [zb] at k; exact k.elim
    | some bs =>
      rw [zb] at k
      have k : OkE X.K cl fn (.ok (.bl (allB bs)) h) m H Q := k
      rw [allB_eq] at k
      exact ⟨a, bs, rfl, by rw [← blsV_ok h2 zb]; exact h1, k.give r (.bl _)⟩
theorem sumV_ok {K : PySem.W.Frag} {m : List Addr} {H : Hp} : ∀ {ps : List PV} {vs : List V} {c i : Int}, VRs K m H ps vs → sumV c ps = some i → ∃ ns : List Int, vs = ns.map V.int ∧ i = c + ns.sum
  | _, _, c, i, .nil, e => by cases e; exact ⟨[], rfl, by simp⟩
  | p :: ps, _, c, i, .cons r t, e => by
    cases p with
    | int j =>
      cases r
      obtain ⟨ns, e1, e2⟩ := sumV_ok (c := c + j) t e
      exact ⟨j :: ns, by rw [e1]; rfl, by rw [e2, List.sum_cons]; omega⟩
    | _ => cases e
theorem bi_sum (hc : X.calm = true) : BiOk X cl fn .sum (.builtin "sum") := by
  refine ⟨⟨_, cr_sum hc, li1 (fun _ _ _ => rfl) fun m H h v x Q r vp k => ?_⟩, fun h => ⟨_, rfl⟩⟩
  have k : OkE X.K cl fn (match lsOf h v with
    | some xs => match sumV 0 xs with
      | some i => .ok (.int i) h
      | none => .no 55
    | none => .no 55) m H Q := k
  cases z : lsOf h v with
  | none => rw [z] at k; exact k.elim
  | some xs =>
    obtain ⟨a, vs, rfl, h1, h2⟩ := lsOf_sql r vp z
    rw [z] at k
    have k : OkE X.K cl fn (match sumV 0 xs with
      | some i => .ok (.int i) h
      | none => .no 55) m H Q := k
    cases zb : sumV 0 xs with
    | none => rw [zb] at k; exact k.elim
    | some i =>
      rw [zb] at k
      obtain ⟨ns, e1, e2⟩ := sumV_ok h2 zb
      have k : OkE X.K cl fn (.ok (.int i) h) m H Q := k
      rw [e2, Int.zero_add] at k
      exact ⟨a, ns, rfl, by rw [← e1]; exact h1, k.give r (.int _)⟩
theorem maxI_ok {K : PySem.W.Frag} {m : List Addr} {H : Hp} : ∀ {ps : List PV} {vs : List V} {c i : Int}, VRs K m H ps vs → maxI c ps = some i → ∃ ns : List Int, vs = ns.map V.int ∧ i ∈ c :: ns ∧ ∀ y ∈ c :: ns, y ≤ i
  | _, _, c, i, .nil, e => by cases e; exact ⟨[], rfl, by simp, by simp⟩
  | p :: ps, _, c, i, .cons r t, e => by
    cases p with
    | int j =>
      cases r
      have e : maxI (match intLt c j with | true => j | false => c) ps = some i := e
      rw [intLt_ok] at e
      obtain ⟨ns, e1, e2, e3⟩ := maxI_ok t e
      refine ⟨j :: ns, by rw [e1]; rfl, ?_, ?_⟩
      · by_cases hc : c < j
        · rw [decide_eq_true hc] at e2
          exact List.mem_cons_of_mem _ e2
        · rw [decide_eq_false hc] at e2
          rcases List.mem_cons.mp e2 with z | z
          · rw [z]; exact List.mem_cons_self ..
          · exact List.mem_cons_of_mem _ (List.mem_cons_of_mem _ z)
      · intro y hy
        by_cases hc : c < j
        · rw [decide_eq_true hc] at e3
          have hj := e3 j (List.mem_cons_self ..)
          rcases List.mem_cons.mp hy with z | hy
          · rw [z]; omega
          · exact e3 y hy
        · rw [decide_eq_false hc] at e3
          have hcc := e3 c (List.mem_cons_self ..)
          rcases List.mem_cons.mp hy with z | hy
          · rw [z]; exact hcc
          · rcases List.mem_cons.mp hy with z | hy
            · rw [z]; omega
            · exact e3 y (List.mem_cons_of_mem _ hy)
    | _ => cases e
theorem bi_max1 (hc : X.calm = true) : BiOk X cl fn .max1 (.builtin "max") := by
  refine ⟨⟨_, cr_max hc, li1 (fun _ _ _ => rfl) fun m H h v x Q r vp k => ?_⟩, fun h => ⟨_, rfl⟩⟩
  have k : OkE X.K cl fn (match lsOf h v with
    | some (.int i :: r) => match maxI i r with
      | some m => .ok (.int m) h
      | none => .no 58
    | _ => .no 58) m H Q := k
  cases z : lsOf h v with
  | none => rw [z] at k; exact k.elim
  | some xs =>
    obtain ⟨a, vs, rfl, h1, h2⟩ := lsOf_sql r vp z
    rw [z] at k
    cases h2 with
    | nil => exact (show False from k).elim
    | @cons p ps v0 vs r0 t =>
      cases p with
      | int i =>
        cases r0
        have k : OkE X.K cl fn (match maxI i ps with
          | some m => .ok (.int m) h
          | none => .no 58) m H Q := k
        cases zb : maxI i ps with
        | none => rw [zb] at k; exact k.elim
        | some j =>
          rw [zb] at k
          obtain ⟨ns, e1, e2, e3⟩ := maxI_ok t zb
          refine ⟨a, i :: ns, rfl, ?_, by simp, fun w hw hall => ?_⟩
          · rw [e1] at h1; exact h1
          · have : w = j := Int.le_antisymm (e3 w hw) (hall j e2)
            rw [this]
            exact OkE.give (v := .int j) k r (.int _)
      | _ => exact (show False from k).elim
/-! ### list(range(n)) -/
theorem rangeL_ok {K : PySem.W.Frag} {m : List Addr} {H : Hp} : ∀ (k : Nat) (i : Int), VRs K m H (rangeL k i) ((List.range k).map fun j => V.int (i + (j : Nat)))
  | 0, _ => .nil
  | k + 1, i => by
    rw [List.range_succ_eq_map, List.map_cons, List.map_map]
    have e : i + ((0 : Nat) : Int) = i := by omega
    rw [e]
    refine .cons (.int i) ?_
    have := rangeL_ok (K := K) (m := m) (H := H) k (i + 1)
    have e2 : ((List.range k).map ((fun j => V.int (i + (j : Nat))) ∘ Nat.succ)) = (List.range k).map fun j => V.int (i + 1 + (j : Nat)) := by
      apply List.map_congr_left
      intro j _
      show V.int (i + ((j + 1 : Nat) : Int)) = V.int (i + 1 + (j : Nat))
      congr 1
      omega
    rw [e2]
    exact this
theorem pe_lrangeC {e : Expr} {f : Ee} {p p2 pos pos2 : Pos} (hc : X.calm = true) (he : PE X e (cE X.K cl fn f)) (hs : isStar e = false) (hg : Gl X "list") (hm : X.mg "list" = none) (hg2 : Gl X "range") (hm2 : X.mg "range" = none) :
    PE X (.Call (.Name "list" p) [.Call (.Name "range" p2) [e] [] pos2] [] pos) (cE X.K cl fn ⟨eBi .lrange [f]⟩) := by
  refine (pe_listRg hc hg hm (prg_1 hg2 hm2 he (star_no hs)) rfl).of fun σ H Q ⟨m, env, h, en, r, k⟩ => ?_
  have k : OkE X.K cl fn (match (match f.run env h with
    | .ok v h1 => R.ok [v] h1
    | .no n => .no n) with
    | .ok vs h1 => biV .lrange vs h1
    | .no n => .no n) m H Q := k
  cases z : f.run env h with
  | no c => rw [z] at k; exact k.elim
  | ok v h1 =>
    rw [z] at k
    have k : OkE X.K cl fn (lrangeV v h1) m H Q := k
    refine cE.bind en r (fun v' h' z' m1 H1 x g1 r1 e1 q1 => ?_) (fun n z' => by rw [z] at z'; cases z')
    rw [z] at z'; cases z'
    cases v with
    | int n =>
      cases q1
      have k : OkE X.K cl fn (match bound62 n && sizeOk n.toNat with
        | true => newOb (.lst (rangeL n.toNat 0)) h1
        | false => .no 59) m H Q := k
      cases zb : bound62 n && sizeOk n.toNat with
      | false => rw [zb] at k; exact k.elim
      | true =>
        rw [zb] at k
        obtain ⟨z1, z2⟩ := Bool.and_eq_true_iff.mp zb
        obtain ⟨b1, b2⟩ := bound62_ok z1
        have b3 := Nat.le_of_ble_eq_true z2
        have b3 : n.toNat ≤ 16777216 := b3
        refine ⟨n, rfl, ⟨by omega, by omega, by omega, by omega, by omega⟩, fun q hq => ?_⟩
        have k : OkE X.K cl fn (newOb (.lst (rangeL n.toNat 0)) h1) m H Q := k
        have e : rgV 0 n = (List.range n.toNat).map fun j => V.int (0 + (j : Nat)) := by unfold rgV; rw [show n - 0 = n by omega]
        rw [e]
        exact OkE.lst (OkE.mono g1 k) r1 (rangeL_ok n.toNat 0) hq
    | _ => exact (show False from k).elim
end
end Ev

set_option Elab.async false
set_option linter.all false
set_option maxRecDepth 100000
/-! Ev15: methods of lists, stores into lists, op=. -/
namespace Ev
open PySem PySem.Spec PyProof.Rows L2

section
variable {X : Cx} {cl : Nat → Addr} {fn : Nm} {pos : Pos}
theorem hfew_ok {es : List Expr} {env : PySem.Env} {cpos : Pos} (hs : anyStar es = false) (hl : es.length < 28) : ((backTo cpos (starEach es env)).all (fun x => !x.1) && (backToKw cpos (keywordEach [] env)).all (fun x => x.1.isSome)
      && decide (es.length + ([] : List Keyword).length + (if ([] : List Keyword).isEmpty then 0 else 1) < 30)) = true := by
  have e : (backTo cpos (starEach es env)).all (fun x => !x.1) = true := by
    have := stars_no env hs
    rw [← back_any cpos] at this
    rw [List.all_eq_not_any_not]
    simp only [Bool.not_not]
    rw [this]; rfl
  rw [e]
  have : decide (es.length + ([] : List Keyword).length + (if ([] : List Keyword).isEmpty then 0 else 1) < 30) = true := by
    apply decide_eq_true
    show es.length + 0 + 0 < 30
    omega
  rw [this]; rfl
theorem base_ok {o : Expr} {name : Str} {env : PySem.Env} {w : Sem Value} (h : baseOk o = true) : attributeBase o name env w = w := by
  unfold attributeBase
  split
  · cases h
  · rfl
/-- a method by values: the receiver, the arguments -/
def MtV (K : PySem.W.Frag) (cl : Nat → Addr) (fn : Nm) (m : Mt) (r : V → List V → Hp → VK → Prop) : Prop :=
  ∀ mm H h p ps x xs Q, HR K cl fn mm H h → VR K mm H p x → VRs K mm H ps xs → OkE K cl fn (mtV m p ps h) mm H Q → r x xs H Q
/-- a kind of receiver -/
def TyP (X : Cx) (T : String) (ty : V → Hp → Prop) : Prop := ∀ {pins : List (Addr × Obj)} {σ : L2.St} {H : Hp} {s : Shared} {x : V} {v : Value}, Inv X pins σ H s → RelV x v → ty x H → s.TypeIs v T ∧ ∀ a, v = .ref a → ∃ ob, s.heap.get? a = some ob ∧ ob.dict = none
theorem tyP_lst : TyP X "list" (tyV X.K "list") := fun I r ty => tyV_is I r ty
def isDV (w : World) (x : V) (H : Hp) : Prop := ∃ a u ps, x = .ref a ∧ Rd H a u ∧ DPs w a u ps
theorem tyP_dct : TyP X "dict" (isDV X.w) := fun {pins σ H s x v} I r ⟨a, u, ps, e, h1, h2⟩ => by
  subst e
  cases r
  obtain ⟨_, _, o, es, ep, q1, q2, _⟩ := dps_raw h2 (h1.ok I.hok)
  exact ⟨⟨o, q1, q2.1⟩, fun b z => by cases z; exact ⟨o, q1, q2.2.1⟩⟩
def tM0 (ty : V → Hp → Prop) (r : V → List V → Hp → VK → Prop) (to : TE) : TE := fun σ H Q => to σ H fun x H1 => ty x H1 ∧ r x [] H1 Q
def tM (ty : V → Hp → Prop) (r : V → List V → Hp → VK → Prop) (to : TE) (t : TA) : TE := fun σ H Q => to σ H fun x H1 => ty x H1 ∧ t σ H1 fun xs H2 => r x xs H2 Q
/-- o.name(..) of a built-in kind -/
theorem pe_mth0 {o : Expr} {to : TE} {name : Str} {apos cpos : Pos} {T id : String} {ty : V → Hp → Prop} {r : V → List V → Hp → VK → Prop} (ht : TyP X T ty) (pa : PlainAttrs T) (slot : PySem.Slot T name id) (hty : typeOf (.builtin id) = pure (.type "method_descriptor")) (hm : MtR X id r) (ho : PE X o to)
    (hbase : attributeBase o name X.env (eval o X.env) = eval o X.env) (hline : (apos.endLine == cpos.line) = true) : PE X (.Call (.Attribute o name apos) [] [] cpos) (tM0 ty r to) := by
  refine ⟨fun pins s σ H Q I h => wpAny_Call_method0_late hbase hline (thn (ho.run pins s σ H _ I h) fun v s1 ⟨x, H1, I1, r1, q0, q1⟩ => ?_)⟩
  have hh := ht I1 r1 q0
  exact ⟨T, id, pa, slot, hty, hh.1, hh.2, Calls.callWith_builtin rfl (PySem.evalArgs_none (hm pins s1 σ H1 x [] v [] Q I1 r1 .nil q1))⟩
theorem pe_mth {o e : Expr} {es : List Expr} {to : TE} {t : TA} {name : Str} {apos cpos : Pos} {T id : String} {ty : V → Hp → Prop} {r : V → List V → Hp → VK → Prop} (ht : TyP X T ty) (pa : PlainAttrs T) (slot : PySem.Slot T name id) (hty : typeOf (.builtin id) = pure (.type "method_descriptor")) (hm : MtR X id r) (ho : PE X o to) (ha : PA X (e :: es) t)
    (hbase : attributeBase o name X.env (eval o X.env) = eval o X.env)
    (hfew : ((backTo cpos (starEach (e :: es) X.env)).all (fun x => !x.1) && (backToKw cpos (keywordEach [] X.env)).all (fun x => x.1.isSome)
      && decide ((e :: es).length + ([] : List Keyword).length + (if ([] : List Keyword).isEmpty then 0 else 1) < 30)) = true)
    (hline : (apos.endLine == cpos.line) = true) (hs : starEach (e :: es) X.env = (false, eval e X.env) :: starEach es X.env) (hplain : (backTo cpos (starEach es X.env)).any (·.1) = false) :
    PE X (.Call (.Attribute o name apos) (e :: es) [] cpos) (tM ty r to t) := by
  refine ⟨fun pins s σ H Q I h => wpAny_Call_method_late hbase hfew hline rfl (thn (ho.run pins s σ H _ I h) fun v s1 ⟨x, H1, I1, r1, q0, q1⟩ => ?_)⟩
  have hh := ht I1 r1 q0
  refine ⟨T, id, pa, slot, hty, hh.1, hh.2, ?_⟩
  have args := ha.run cpos pins s1 σ H1 _ I1 q1
  rw [hs] at args ⊢
  refine Calls.callWith_builtin (by show (false || (backTo cpos (starEach es X.env)).any (·.1)) = false; rw [hplain] <;> rfl) (Calls.evalArgs_plain (thn args fun us s2 ⟨vs, H2, I2, r2, q2⟩ => ?_))
  exact hm pins s2 σ H2 x vs v us Q I2 r1 r2 q2
/-- what a method is for -/
structure MtOk (X : Cx) (cl : Nat → Addr) (fn : Nm) (m : Mt) (name : Str) : Prop where
  ex : ∃ (T id : String) (ty : V → Hp → Prop) (r : V → List V → Hp → VK → Prop), TyP X T ty ∧ PlainAttrs T ∧ Nonempty (PySem.Slot T name id) ∧ typeOf (.builtin id) = pure (.type "method_descriptor") ∧ MtR X id r ∧ MtV X.K cl fn m r ∧
    ∀ mm H h p x, HR X.K cl fn mm H h → VR X.K mm H p x → mtKd m p h = true → ty x H
theorem mt_read {m : Mt} {ty : V → Hp → Prop} {r : V → List V → Hp → VK → Prop} (hv : MtV X.K cl fn m r) (ht : ∀ mm H h p x, HR X.K cl fn mm H h → VR X.K mm H p x → mtKd m p h = true → ty x H) {f : Ee} {fs : List Ee} {σ : L2.St} {H : Hp} {Q : VK} (w : cE X.K cl fn ⟨eMt m f fs⟩ σ H Q) :
    tM ty r (cE X.K cl fn f) (cL X.K cl fn fs) σ H Q := by
  obtain ⟨mm, env, h, e, rr, k⟩ := w
  have k : OkE X.K cl fn (match f.run env h with
    | .ok v h1 => match mtKd m v h1 with
      | true => match evL fs env h1 with
        | .ok vs h2 => mtV m v vs h2
        | .no n => .no n
      | false => .no 141
    | .no n => .no n) mm H Q := k
  cases z : f.run env h with
  | no n => rw [z] at k; exact k.elim
  | ok v h1 =>
    rw [z] at k
    have k : OkE X.K cl fn (match mtKd m v h1 with
      | true => match evL fs env h1 with
        | .ok vs h2 => mtV m v vs h2
        | .no n => .no n
      | false => .no 141) mm H Q := k
    cases z1 : mtKd m v h1 with
    | false => rw [z1] at k; exact k.elim
    | true =>
    rw [z1] at k
    have k : OkE X.K cl fn (match evL fs env h1 with
      | .ok vs h2 => mtV m v vs h2
      | .no n => .no n) mm H Q := k
    cases z2 : evL fs env h1 with
    | no n => rw [z2] at k; exact k.elim
    | ok vs h2 =>
      rw [z2] at k
      refine cE.bind e rr (fun v' h1' z' m1 H1 x g1 r1 e1 q => ?_) (fun n z' => by rw [z] at z'; cases z')
      rw [z] at z'; cases z'
      refine ⟨ht _ _ _ _ _ r1 q z1, ?_⟩
      refine cL.bind e1 r1 (fun vs' h2' z2' m2 H2 xs g2 r2 e2 q2 => ?_) (fun n z' => by rw [z2] at z'; cases z')
      rw [z2] at z2'; cases z2'
      exact hv m2 H2 h2 _ _ _ _ _ r2 (q.grow g2) q2 (OkE.mono (g1.trans g2) k)
theorem pe_mtC {o : Expr} {es : List Expr} {f : Ee} {fs : List Ee} {name : Str} {apos cpos : Pos} {m : Mt} (hm : MtOk X cl fn m name) (ho : PE X o (cE X.K cl fn f)) (ha : PA X es (cL X.K cl fn fs)) (hfs : fs.length = es.length)
    (hb : baseOk o = true) (hs : anyStar es = false) (hl : es.length < 28) (hline : (apos.endLine == cpos.line) = true) : PE X (.Call (.Attribute o name apos) es [] cpos) (cE X.K cl fn ⟨eMt m f fs⟩) := by
  obtain ⟨T, id, ty, r, ht, pa, ⟨slot⟩, hty, h1, h2, h3⟩ := hm.ex
  cases es with
  | nil =>
    cases fs with
    | cons _ _ => cases hfs
    | nil =>
      refine (pe_mth0 ht pa slot hty h1 ho (base_ok hb) hline).of fun σ H Q w => ?_
      obtain ⟨mm, env, h, e, rr, k⟩ := w
      have k : OkE X.K cl fn (match f.run env h with
        | .ok v h1 => match mtKd m v h1 with
          | true => mtV m v [] h1
          | false => .no 141
        | .no n => .no n) mm H Q := k
      cases z : f.run env h with
      | no n => rw [z] at k; exact k.elim
      | ok v h1 =>
        rw [z] at k
        have k : OkE X.K cl fn (match mtKd m v h1 with
          | true => mtV m v [] h1
          | false => .no 141) mm H Q := k
        cases z1 : mtKd m v h1 with
        | false => rw [z1] at k; exact k.elim
        | true =>
        rw [z1] at k
        refine cE.bind e rr (fun v' h1' z' m1 H1 x g1 r1 e1 q => ?_) (fun n z' => by rw [z] at z'; cases z')
        rw [z] at z'; cases z'
        exact ⟨h3 _ _ _ _ _ r1 q z1, h2 m1 H1 h1 _ _ _ _ _ r1 q .nil (OkE.mono g1 k)⟩
  | cons e es =>
    obtain ⟨s1, s2⟩ := anyStar_cons hs
    exact (pe_mth ht pa slot hty h1 ho ha (base_ok hb) (hfew_ok hs hl) hline (star_no s1) (by rw [back_any, stars_no _ s2])).of fun σ H Q w => mt_read h2 h3 w
/-! lists -/
theorem isLst_ok {h : Hh} {p : PV} (e : isLst p h = true) : ∃ n xs, p = .ref n ∧ h.get n = some (.lst xs) := by
  cases p with
  | ref n =>
    have e : (match h.get n with
      | some (.lst _) => true
      | _ => false) = true := e
    cases z : h.get n with
    | none => rw [z] at e; cases e
    | some o =>
      rw [z] at e
      cases o with
      | lst xs => exact ⟨n, xs, rfl, z⟩
      | _ => cases e
  | _ => cases e
theorem ty_lst {K : PySem.W.Frag} {m : List Addr} {H : Hp} {h : Hh} {p : PV} {x : V} (r : HR K cl fn m H h) (q : VR K m H p x) (e : isLst p h = true) : tyV K "list" x H := by
  obtain ⟨n, xs, rfl, z⟩ := isLst_ok e
  obtain ⟨a, vs, rfl, h1, _⟩ := lsOf_sql r q (lsOf_lst z)
  exact .inl ⟨rfl, vs, h1⟩
/-- a list written: the heap behind it -/
theorem OkE.put {K : PySem.W.Frag} {m : List Addr} {H : Hp} {h : Hh} {n : Nat} {a : Addr} {xs ys : List PV} {vs ws : List V} {v : PV} {y : V} {Q : VK} (k : OkE K cl fn (.ok v (h.put n (.lst ys))) m H Q) (r : HR K cl fn m H h) (z : h.get n = some (.lst xs)) (ha : m[n]? = some a) (hH : H a = some (.lst vs))
    (q : VRs K m H ys ws) (qv : VR K m H v y) : Q y (upd H a (.lst ws)) := by
  have g : Grow m H m (upd H a (.lst ws)) := Grow.upd_mut (List.mem_of_getElem? ha) (fun xs e => by rw [hH] at e; cases e) (fun ob u e => by rw [hH] at e; cases e)
  exact k m _ y g (r.put z ha g ⟨ws, upd_same, q.grow g⟩) (qv.grow g)
theorem lstOf_ok {h : Hh} {v : PV} {xs : List PV} (e : lstOf v h = some xs) : ∃ n, v = .ref n ∧ h.get n = some (.lst xs) := by
  cases v with
  | ref n =>
    have e : (match h.get n with
      | some (.lst xs) => some xs
      | _ => none) = some xs := e
    cases z : h.get n with
    | none => rw [z] at e; cases e
    | some o =>
      rw [z] at e
      cases o with
      | lst ys => cases e; exact ⟨n, rfl, z⟩
      | _ => cases e
  | _ => cases e
/-- the receiver is a list -/
theorem mtv_lst {K : PySem.W.Frag} {m : Mt} {r : V → List V → Hp → VK → Prop} (hd : ∀ n kvs wr vs h, ∃ c, mtDct m n kvs wr vs h = .no c)
    (hl : ∀ mm H h n a xs vs ps ys Q, HR K cl fn mm H h → mm[n]? = some a → h.get n = some (.lst xs) → H a = some (.lst vs) → VRs K mm H xs vs → VRs K mm H ps ys → OkE K cl fn (mtLst m n xs ps h) mm H Q → r (.ref a) ys H Q) : MtV K cl fn m r := by
  intro mm H h p ps x xs Q rr vp vs k
  cases p with
  | ref n =>
    have k : OkE K cl fn (match h.get n with
      | some (.lst xs) => mtLst m n xs ps h
      | some (.dct kvs) => mtDct m n kvs true ps h
      | some (.dlk kvs) => mtDct m n kvs false ps h
      | _ => .no 81) mm H Q := k
    cases z : h.get n with
    | none => rw [z] at k; exact k.elim
    | some o =>
      rw [z] at k
      obtain ⟨a, rfl, ha⟩ := vp.ref_inv
      cases o with
      | lst ls =>
        obtain ⟨ws, h1, h2⟩ := rr.lst z ha
        exact hl mm H h n a ls ws ps xs Q rr ha z h1 h2 vs k
      | dct kvs =>
        obtain ⟨c, e⟩ := hd n kvs true ps h
        have k : OkE K cl fn (mtDct m n kvs true ps h) mm H Q := k
        rw [e] at k; exact k.elim
      | dlk kvs =>
        obtain ⟨c, e⟩ := hd n kvs false ps h
        have k : OkE K cl fn (mtDct m n kvs false ps h) mm H Q := k
        rw [e] at k; exact k.elim
      | ins c fs => exact (show False from k).elim
  | _ => exact (show False from k).elim
theorem mto_append : MtOk X cl fn .append "append" := by
  refine ⟨"list", "list.append", _, rAppend, tyP_lst, PySem.F.plainAttrs_list, ⟨PySem.F.slot_list_append⟩, PySem.F.type_list_append, mt_append, mtv_lst (fun n kvs wr vs h => ⟨80, rfl⟩) ?_, fun mm H h p x r q e => ty_lst r q e⟩
  intro mm H h n a xs vs ps ys Q r ha z hH q qs k
  match ps, qs, k with
  | [], _, k => exact (show False from k).elim
  | _ :: _ :: _, _, k => exact (show False from k).elim
  | [v], qs, k =>
    obtain ⟨y, rfl, qv⟩ := qs.one_inv
    have k : OkE X.K cl fn (match sizeOk (xs.length + 1) with
      | true => .ok .non (h.put n (.lst (xs ++ [v])))
      | false => .no 72) mm H Q := k
    cases zs : sizeOk (xs.length + 1) with
    | false => rw [zs] at k; exact k.elim
    | true =>
      rw [zs] at k
      have := sizeOk_le zs
      exact ⟨a, vs, y, rfl, rfl, hH, by rw [← q.length]; omega, OkE.put k r z ha hH (q.append (.cons qv .nil)) .non⟩
theorem mto_extend : MtOk X cl fn .extend "extend" := by
  refine ⟨"list", "list.extend", _, rExtend, tyP_lst, PySem.F.plainAttrs_list, ⟨PySem.F.slot_list_extend⟩, PySem.F.type_list_extend, mt_extend, mtv_lst (fun n kvs wr vs h => ⟨80, rfl⟩) ?_, fun mm H h p x r q e => ty_lst r q e⟩
  intro mm H h n a xs vs ps ys Q r ha z hH q qs k
  match ps, qs, k with
  | [], _, k => exact (show False from k).elim
  | _ :: _ :: _, _, k => exact (show False from k).elim
  | [v], qs, k =>
    obtain ⟨y, rfl, qv⟩ := qs.one_inv
    have k : OkE X.K cl fn (match lstOf v h with
      | some ys => match sizeOk (xs.length + ys.length) with
        | true => .ok .non (h.put n (.lst (xs ++ ys)))
        | false => .no 73
      | none => .no 73) mm H Q := k
    cases z2 : lstOf v h with
    | none => rw [z2] at k; exact k.elim
    | some zs =>
      rw [z2] at k
      have k : OkE X.K cl fn (match sizeOk (xs.length + zs.length) with
        | true => .ok .non (h.put n (.lst (xs ++ zs)))
        | false => .no 73) mm H Q := k
      cases z4 : sizeOk (xs.length + zs.length) with
      | false => rw [z4] at k; exact k.elim
      | true =>
        rw [z4] at k
        have k' := k
        clear k
        obtain ⟨n2, rfl, z3⟩ := lstOf_ok z2
        obtain ⟨b, rfl, hb⟩ := qv.ref_inv
        obtain ⟨ws, h1, h2⟩ := r.lst z3 hb
        have k := k'
        have := sizeOk_le z4
        exact ⟨a, b, vs, ws, rfl, rfl, hH, h1, by rw [← q.length, ← h2.length]; omega, OkE.put k r z ha hH (q.append h2) .non⟩
theorem lastOf_ok {K : PySem.W.Frag} {m : List Addr} {H : Hp} : ∀ {xs : List PV} {vs : List V} {v : PV}, VRs K m H xs vs → lastOf xs = some v → ∃ y, vs[vs.length - 1]? = some y ∧ VR K m H v y ∧ VRs K m H (dropLast1 xs) vs.dropLast
  | [], _, _, .nil, e => by cases e
  | [p], _, _, .cons r .nil, e => by cases e; exact ⟨_, rfl, r, .nil⟩
  | p :: p2 :: ps, _, v, .cons (v := y) r (.cons (v := y2) (vs := ys) r2 t), e => by
    obtain ⟨z, h1, h2, h3⟩ := lastOf_ok (xs := p2 :: ps) (vs := y2 :: ys) (v := v) (.cons r2 t) e
    refine ⟨z, ?_, h2, .cons r h3⟩
    have : (y :: y2 :: ys).length - 1 = ((y2 :: ys).length - 1) + 1 := by simp
    rw [this, List.getElem?_cons_succ]
    exact h1
theorem mto_pop : MtOk X cl fn .pop "pop" := by
  refine ⟨"list", "list.pop", _, rPop, tyP_lst, PySem.F.plainAttrs_list, ⟨PySem.F.slot_list_pop⟩, PySem.F.type_list_pop, mt_pop, mtv_lst (fun n kvs wr vs h => ⟨80, rfl⟩) ?_, fun mm H h p x r q e => ty_lst r q e⟩
  intro mm H h n a xs vs ps ys Q r ha z hH q qs k
  match ps, qs, k with
  | _ :: _, _, k => exact (show False from k).elim
  | [], qs, k =>
    obtain rfl := qs.nil_inv
    have k : OkE X.K cl fn (match lastOf xs with
      | some v => .ok v (h.put n (.lst (dropLast1 xs)))
      | none => .no 74) mm H Q := k
    cases z2 : lastOf xs with
    | none => rw [z2] at k; exact k.elim
    | some v =>
      rw [z2] at k
      obtain ⟨y, h1, h2, h3⟩ := lastOf_ok q z2
      exact ⟨a, vs, y, rfl, rfl, hH, h1, OkE.put k r z ha hH h3 h2⟩
theorem isZ_eq {z : Int} (e : isZ z = true) : z = 0 := by
  cases z with
  | ofNat n => cases n with
    | zero => rfl
    | succ n => cases e
  | negSucc n => cases e
theorem mto_pop0 : MtOk X cl fn .pop0 "pop" := by
  refine ⟨"list", "list.pop", _, rPopAt, tyP_lst, PySem.F.plainAttrs_list, ⟨PySem.F.slot_list_pop⟩, PySem.F.type_list_pop, mt_popAt, mtv_lst (fun n kvs wr vs h => ⟨80, rfl⟩) ?_, fun mm H h p x r q e => ty_lst r q e⟩
  intro mm H h n a xs vs ps ys Q r ha z hH q qs k
  match ps, qs, k with
  | [], _, k => exact (show False from k).elim
  | _ :: _ :: _, _, k => exact (show False from k).elim
  | [v], qs, k =>
    obtain ⟨y, rfl, qv⟩ := qs.one_inv
    cases v with
    | int i =>
      cases qv
      have k : OkE X.K cl fn (match isZ i with
        | true => match (generalizing := false) xs with
          | v :: r => .ok v (h.put n (.lst r))
          | [] => .no 75
        | false => .no 75) mm H Q := k
      cases zi : isZ i with
      | false => rw [zi] at k; exact k.elim
      | true =>
        rw [zi] at k
        obtain rfl := isZ_eq zi
        cases q with
        | nil => exact (show False from k).elim
        | cons q1 q2 => exact ⟨a, _, 0, 0, _, rfl, rfl, hH, by omega, by omega, by unfold seqIndex?; simp, rfl, OkE.put k r z ha hH q2 q1⟩
    | _ => exact (show False from k).elim
/-! dicts -/
theorem isDct_ok {h : Hh} {p : PV} (e : isDct p h = true) : ∃ d, dOf p h = some d := by
  cases p with
  | ref n =>
    have e : (match h.get n with
      | some (.dct _) => true
      | some (.dlk _) => true
      | _ => false) = true := e
    show ∃ d, (match h.get n with
      | some (.dct d) => some d
      | some (.dlk d) => some d
      | _ => none) = some d
    cases z : h.get n with
    | none => rw [z] at e; cases e
    | some o =>
      rw [z] at e
      cases o with
      | dct d => exact ⟨d, rfl⟩
      | dlk d => exact ⟨d, rfl⟩
      | _ => cases e
  | _ => cases e
theorem ty_dct (hw : fn.w = X.w) {m : List Addr} {H : Hp} {h : Hh} {p : PV} {x : V} (r : HR X.K cl fn m H h) (q : VR X.K m H p x) (e : isDct p h = true) : isDV X.w x H := by
  obtain ⟨d, e⟩ := isDct_ok e
  obtain ⟨a, kvs, u, ps, rfl, _, h2, h3, _⟩ := dOf_ok r q e
  exact ⟨a, u, ps, rfl, h2, hw ▸ h3⟩
/-- the receiver is a dict -/
theorem mtv_dct {K : PySem.W.Frag} {m : Mt} {r : V → List V → Hp → VK → Prop} (hl : ∀ n xs vs h, ∃ c, mtLst m n xs vs h = .no c)
    (hd : ∀ mm H h n a d wr ps ys Q, HR K cl fn mm H h → mm[n]? = some a → ddOf h n = some d → (wr = true → h.get n = some (.dct d)) → VRs K mm H ps ys → OkE K cl fn (mtDct m n d wr ps h) mm H Q → r (.ref a) ys H Q) : MtV K cl fn m r := by
  intro mm H h p ps x xs Q rr vp vs k
  cases p with
  | ref n =>
    have k : OkE K cl fn (match h.get n with
      | some (.lst xs) => mtLst m n xs ps h
      | some (.dct kvs) => mtDct m n kvs true ps h
      | some (.dlk kvs) => mtDct m n kvs false ps h
      | _ => .no 81) mm H Q := k
    cases z : h.get n with
    | none => rw [z] at k; exact k.elim
    | some o =>
      rw [z] at k
      obtain ⟨a, rfl, ha⟩ := vp.ref_inv
      cases o with
      | lst ls =>
        obtain ⟨c, e⟩ := hl n ls ps h
        have k : OkE K cl fn (mtLst m n ls ps h) mm H Q := k
        rw [e] at k; exact k.elim
      | dct d => exact hd mm H h n a d true ps xs Q rr ha (by unfold ddOf; rw [z]) (fun _ => z) vs k
      | dlk d => exact hd mm H h n a d false ps xs Q rr ha (by unfold ddOf; rw [z]) (fun e => nomatch e) vs k
      | ins c fs => exact (show False from k).elim
  | _ => exact (show False from k).elim
def rGet1D (K : PySem.W.Frag) (w : World) : V → List V → Hp → VK → Prop := fun x xs H Q => ∃ a y o, x = .ref a ∧ xs = [y] ∧ DG K w H a y o ∧ Q (o.getD .non) H
def rGet2D (K : PySem.W.Frag) (w : World) : V → List V → Hp → VK → Prop := fun x xs H Q => ∃ a y z o, x = .ref a ∧ xs = [y, z] ∧ DG K w H a y o ∧ Q (o.getD z) H
def rSetdD (K : PySem.W.Frag) (w : World) : V → List V → Hp → VK → Prop := fun x xs H Q => ∃ a y v o H', x = .ref a ∧ xs = [y, v] ∧ DPo K w H a y v H' o ∧ (∀ z, o = some z → Q z H) ∧ (o = none → Q v H')
theorem mt_get1D (hu : X.A.units + 64 < cLine) : MtR X "dict.get" (rGet1D X.K X.w) := by
  intro pins s σ H x xs v us Q I rx rs h
  obtain ⟨a, y, o, rfl, rfl, g, q⟩ := h
  cases rx
  obtain ⟨u, rfl, ru⟩ := rs.one
  exact g_get1 hu I g ru fun w' s' I' r' => ⟨_, H, I', r', q⟩
theorem mt_get2D (hu : X.A.units + 64 < cLine) : MtR X "dict.get" (rGet2D X.K X.w) := by
  intro pins s σ H x xs v us Q I rx rs h
  obtain ⟨a, y, z, o, rfl, rfl, g, q⟩ := h
  cases rx
  obtain ⟨u, u2, rfl, ru, ru2⟩ := rs.two
  exact g_get2 hu I g ru ru2 fun w' s' I' r' => ⟨_, H, I', r', q⟩
theorem mt_setdD (hu : X.A.units + 64 < cLine) : MtR X "dict.setdefault" (rSetdD X.K X.w) := by
  intro pins s σ H x xs v us Q I rx rs h
  obtain ⟨a, y, z, o, H', rfl, rfl, g, q1, q2⟩ := h
  cases rx
  obtain ⟨u, u2, rfl, ru, ru2⟩ := rs.two
  refine p_setdefault hu I ru ru2 ?_
  rcases g with ⟨ls, k, h1, h2, h3, h4, rfl⟩ | ⟨v, xs, k, b, h1, h2, h3, h4, h5, h6, h7, rfl⟩
  · exact .inl ⟨ls, k, h1, h2, fun z' e w' s' I' r' => ⟨z', H, I', r', q1 z' (h3.trans e)⟩, fun e => ⟨h4, fun s' I' => ⟨z, _, I', ru2, q2 (h3.trans e)⟩⟩⟩
  · exact .inr ⟨v, xs, k, b, h1, h2, h3, h4, h5, fun z' e w' s' I' r' => ⟨z', H, I', r', q1 z' (h6.trans e)⟩, fun e => ⟨h7, fun s' I' => ⟨z, _, I', ru2, q2 (h6.trans e)⟩⟩⟩
theorem mto_get1 (hw : fn.w = X.w) (hu : X.A.units + 64 < cLine) : MtOk X cl fn .get1 "get" := by
  refine ⟨"dict", "dict.get", _, rGet1D X.K X.w, tyP_dct, PySem.F.plainAttrs_dict, ⟨PySem.F.slot_dict_get⟩, PySem.F.type_dict_get, mt_get1D hu, mtv_dct (fun n xs vs h => ⟨77, rfl⟩) ?_, fun mm H h p x r q e => ty_dct hw r q e⟩
  intro mm H h n a d wr ps ys Q r ha z _ qs k
  match ps, qs, k with
  | [], _, k => exact (show False from k).elim
  | _ :: _ :: _, _, k => exact (show False from k).elim
  | [v], qs, k =>
    obtain ⟨y, rfl, qv⟩ := qs.one_inv
    have k : OkE X.K cl fn (match d.kOk v with
      | true => match d.look v with
        | some v => .ok v h
        | none => .ok .non h
      | false => .no 78) mm H Q := k
    cases zk : d.kOk v with
    | false => rw [zk] at k; exact k.elim
    | true =>
      rw [zk] at k
      obtain ⟨o, g, lk⟩ := r.dg z ha zk qv
      rw [hw] at g
      refine ⟨a, y, o, rfl, rfl, g, ?_⟩
      have k : OkE X.K cl fn (match d.look v with
        | some v => .ok v h
        | none => .ok .non h) mm H Q := k
      cases zl : d.look v with
      | none => rw [zl] at k lk; rw [show o = none from lk]; exact k.give r .non
      | some p =>
        rw [zl] at k lk
        obtain ⟨x, rfl, qx⟩ := lk
        exact k.give r qx
theorem mto_get2 (hw : fn.w = X.w) (hu : X.A.units + 64 < cLine) : MtOk X cl fn .get2 "get" := by
  refine ⟨"dict", "dict.get", _, rGet2D X.K X.w, tyP_dct, PySem.F.plainAttrs_dict, ⟨PySem.F.slot_dict_get⟩, PySem.F.type_dict_get, mt_get2D hu, mtv_dct (fun n xs vs h => ⟨77, rfl⟩) ?_, fun mm H h p x r q e => ty_dct hw r q e⟩
  intro mm H h n a d wr ps ys Q r ha z _ qs k
  match ps, qs, k with
  | [], _, k => exact (show False from k).elim
  | [_], _, k => exact (show False from k).elim
  | _ :: _ :: _ :: _, _, k => exact (show False from k).elim
  | [v, v2], qs, k =>
    obtain ⟨y, y2, rfl, qv, qv2⟩ := qs.two_inv
    have k : OkE X.K cl fn (match d.kOk v with
      | true => match d.look v with
        | some v => .ok v h
        | none => .ok v2 h
      | false => .no 78) mm H Q := k
    cases zk : d.kOk v with
    | false => rw [zk] at k; exact k.elim
    | true =>
      rw [zk] at k
      obtain ⟨o, g, lk⟩ := r.dg z ha zk qv
      rw [hw] at g
      refine ⟨a, y, y2, o, rfl, rfl, g, ?_⟩
      have k : OkE X.K cl fn (match d.look v with
        | some v => .ok v h
        | none => .ok v2 h) mm H Q := k
      cases zl : d.look v with
      | none => rw [zl] at k lk; rw [show o = none from lk]; exact k.give r qv2
      | some p =>
        rw [zl] at k lk
        obtain ⟨x, rfl, qx⟩ := lk
        exact k.give r qx
theorem mto_setdefault (hw : fn.w = X.w) (hu : X.A.units + 64 < cLine) : MtOk X cl fn .setdefault "setdefault" := by
  refine ⟨"dict", "dict.setdefault", _, rSetdD X.K X.w, tyP_dct, PySem.F.plainAttrs_dict, ⟨PySem.F.slot_dict_setdefault⟩, PySem.F.type_dict_setdefault, mt_setdD hu, mtv_dct (fun n xs vs h => ⟨77, rfl⟩) ?_, fun mm H h p x r q e => ty_dct hw r q e⟩
  intro mm H h n a d wr ps ys Q r ha z zw qs k
  match ps, qs, k with
  | [], _, k => exact (show False from k).elim
  | [_], _, k => exact (show False from k).elim
  | _ :: _ :: _ :: _, _, k => exact (show False from k).elim
  | [v, v2], qs, k =>
    obtain ⟨y, y2, rfl, qv, qv2⟩ := qs.two_inv
    have k : OkE X.K cl fn (match d.kOk v && (wr && sizeOk (d.n + 1)) with
      | true => match d.look v with
        | some v => .ok v h
        | none => .ok v2 (h.put n (.dct (d.put v v2)))
      | false => .no 79) mm H Q := k
    cases zk : d.kOk v && (wr && sizeOk (d.n + 1)) with
    | false => rw [zk] at k; exact k.elim
    | true =>
      rw [zk] at k
      obtain ⟨zk1, zk2⟩ := Bool.and_eq_true_iff.mp zk
      obtain ⟨zk2, zk3⟩ := Bool.and_eq_true_iff.mp zk2
      obtain ⟨H', o, g, lk, gr, r2⟩ := r.dpo (zw zk2) ha zk1 zk3 qv qv2
      rw [hw] at g
      refine ⟨a, y, y2, o, H', rfl, rfl, g, fun x e => ?_, fun e => ?_⟩
      · have k : OkE X.K cl fn (match d.look v with
          | some v => .ok v h
          | none => .ok v2 (h.put n (.dct (d.put v v2)))) mm H Q := k
        cases zl : d.look v with
        | none => rw [zl] at lk; rw [show o = none from lk] at e; cases e
        | some p =>
          rw [zl] at k lk
          obtain ⟨x', e', qx⟩ := lk
          rw [e'] at e
          cases e
          exact k.give r qx
      · have k : OkE X.K cl fn (match d.look v with
          | some v => .ok v h
          | none => .ok v2 (h.put n (.dct (d.put v v2)))) mm H Q := k
        cases zl : d.look v with
        | some p => rw [zl] at lk; obtain ⟨x', e', _⟩ := lk; rw [e'] at e; cases e
        | none =>
          rw [zl] at k
          exact k mm H' y2 gr r2 (qv2.grow gr)
theorem mt_ok (hw : fn.w = X.w) (hu : X.A.units + 64 < cLine) {m : Mt} {name : Str} {n : Nat} (e : mtOf name n = some m) : MtOk X cl fn m name := by
  have look : ∀ {l : List (String × Mt)}, lookS name (l.map fun q => (Str.ofString q.1, q.2)) = some m → ∃ q ∈ l, name = Str.ofString q.1 ∧ m = q.2 := fun {l} e => by
    induction l with
    | nil => cases e
    | cons a l ih =>
      have e : (match strEq (Str.ofString a.1) name with
        | true => some a.2
        | false => lookS name (l.map fun q => (Str.ofString q.1, q.2))) = some m := e
      cases z : strEq (Str.ofString a.1) name with
      | true =>
        rw [z] at e; cases e
        rw [strEq_eq] at z
        exact ⟨a, List.mem_cons_self .., (of_decide_eq_true z).symm, rfl⟩
      | false =>
        rw [z] at e
        obtain ⟨q, h1, h2⟩ := ih e
        exact ⟨q, List.mem_cons_of_mem _ h1, h2⟩
  match n, e with
  | 0, e =>
    obtain ⟨q, h1, h2, h3⟩ := look (l := [("pop", Mt.pop)]) e
    simp only [List.mem_singleton] at h1
    subst h1; subst h2; subst h3; exact mto_pop
  | 1, e =>
    obtain ⟨q, h1, h2, h3⟩ := look (l := [("append", Mt.append), ("pop", .pop0), ("extend", .extend), ("get", .get1)]) e
    simp only [List.mem_cons, List.not_mem_nil, or_false] at h1
    rcases h1 with rfl | rfl | rfl | rfl
    · subst h2; subst h3; exact mto_append
    · subst h2; subst h3; exact mto_pop0
    · subst h2; subst h3; exact mto_extend
    · subst h2; subst h3; exact mto_get1 hw hu
  | 2, e =>
    obtain ⟨q, h1, h2, h3⟩ := look (l := [("get", Mt.get2), ("setdefault", .setdefault)]) e
    simp only [List.mem_cons, List.not_mem_nil, or_false] at h1
    rcases h1 with rfl | rfl
    · subst h2; subst h3; exact mto_get2 hw hu
    · subst h2; subst h3; exact mto_setdefault hw hu
  | n + 3, e => cases e
end
end Ev

set_option Elab.async false
set_option linter.all false
set_option maxRecDepth 100000
/-! Ev16: stores into lists, op=, pairs of names, tests by if-expressions, X.index of constant rows. -/
namespace Ev
open PySem PySem.Spec PyProof.Rows L2

section
variable {X : Cx} {cl : Nat → Addr} {fn : Nm} {pos : Pos}
/-! ### o[i] = e -/
def rSetAll (K : PySem.W.Frag) (w : World) : TSet := fun o i v H Q => rSetL o i v H Q ∨ ∃ a H', o = .ref a ∧ DP K w H a i v H' ∧ Q H'
theorem set_all (hu : X.A.units + 64 < cLine) : PSet X (rSetAll X.K X.w) := by
  intro pins s σ H o i v ov iv u Q I ro ri rv h
  rcases h with h | ⟨a, H', rfl, g, q⟩
  · exact set_list pins s σ H o i v ov iv u Q I ro ri rv h
  · cases ro
    exact p_setItem hu I g ri rv fun s' I' => ⟨H', I', q⟩
/-- by values -/
theorem setI_ok {K : PySem.W.Frag} {m : List Addr} {H : Hp} {h : Hh} {po pi pv : PV} {o i v : V} {kk : Hh → R Fl} {D : Ends} {Q : Hp → Prop} (r : HR K cl fn m H h) (qo : VR K m H po o) (qi : VR K m H pi i) (qv : VR K m H pv v) (k : OkS K cl fn (setIV po pi pv h kk) m H D)
    (fin : ∀ h1 m1 H1, Grow m H m1 H1 → HR K cl fn m1 H1 h1 → OkS K cl fn (kk h1) m1 H1 D → Q H1) : rSetAll K fn.w o i v H Q := by
  cases po with
  | ref n =>
    have k : OkS K cl fn (match h.get n with
      | some (.lst xs) => match (generalizing := false) pi with
        | .int j => match idx xs.length j with
          | some p => kk (h.put n (.lst (xs.set p pv)))
          | none => .no 90
        | _ => .no 91
      | some (.dct d) => match d.kOk pi && sizeOk (d.n + 1) with
        | true => kk (h.put n (.dct (d.put pi pv)))
        | false => .no 92
      | _ => .no 93) m H D := k
    obtain ⟨a, rfl, ha⟩ := qo.ref_inv
    cases z : h.get n with
    | none => rw [z] at k; exact k.elim
    | some ob =>
      rw [z] at k
      cases ob with
      | lst xs =>
        obtain ⟨vs, h1, h2⟩ := r.lst z ha
        have k : OkS K cl fn (match (generalizing := false) pi with
          | .int j => match idx xs.length j with
            | some p => kk (h.put n (.lst (xs.set p pv)))
            | none => .no 90
          | _ => .no 91) m H D := k
        cases pi with
        | int j =>
          cases qi
          have k : OkS K cl fn (match idx xs.length j with
            | some p => kk (h.put n (.lst (xs.set p pv)))
            | none => .no 90) m H D := k
          cases z2 : idx xs.length j with
          | none => rw [z2] at k; exact k.elim
          | some p =>
            rw [z2] at k
            have g : Grow m H m (upd H a (.lst (vs.set p v))) := Grow.upd_mut (List.mem_of_getElem? ha) (fun xs e => by rw [h1] at e; cases e) (fun ob u e => by rw [h1] at e; cases e)
            exact .inl ⟨a, vs, j, p, rfl, rfl, h1, by rw [← h2.length]; exact idx_ok z2, fin _ m _ g (r.put (ob' := .lst (xs.set p pv)) z ha g ⟨_, upd_same, (h2.set qv p).grow g⟩) (OkS.mono g k)⟩
        | _ => exact (show False from k).elim
      | dct d =>
        have k : OkS K cl fn (match d.kOk pi && sizeOk (d.n + 1) with
          | true => kk (h.put n (.dct (d.put pi pv)))
          | false => .no 92) m H D := k
        cases zk : d.kOk pi && sizeOk (d.n + 1) with
        | false => rw [zk] at k; exact k.elim
        | true =>
          rw [zk] at k
          obtain ⟨zk1, zk2⟩ := Bool.and_eq_true_iff.mp zk
          obtain ⟨H', g, gr, r2⟩ := r.dp z ha zk1 zk2 qi qv
          exact .inr ⟨a, H', rfl, g, fin _ m H' gr r2 (OkS.mono gr k)⟩
      | dlk kvs => exact (show False from k).elim
      | ins c fs => exact (show False from k).elim
  | _ => exact (show False from k).elim
theorem swap_sub {o i e : Expr} {tp : Pos} {l : Nat} {env : PySem.Env} (hc : isComp e = false) : swapsWithSole [.Subscript o i tp] e l env = pure false := by
  cases e <;> first | rfl | cases hc
theorem stores_one {t e : Expr} {env : PySem.Env} (h : (match t with | .Tuple .. => true | .List .. => true | _ => false) = false) : swappedStores [t] e env = pure none := by
  cases t <;> first | rfl | cases h
theorem asg_sub {o i : Expr} {tp : Pos} {env : PySem.Env} (hs : isSlice i = false) (v : Value) : assign (.Subscript o i tp) env v = (do
      let ov ← holding [v] (eval o env)
      let iv ← holding [v, ov] (eval i env)
      standAt tp
      holding [v, ov, iv] (setItem ov iv v)
      release [v, ov, iv] []) := by
  cases i <;> first | rfl | cases hs
theorem ps_setIC (hw : fn.w = X.w) (hu : X.A.units + 64 < cLine) {o i e : Expr} {fo fi fe : Ee} {tp : Pos} (hs : isSlice i = false) (hc : isComp e = false) (ho : PE X o (cE X.K cl fn fo)) (hi : PE X i (cE X.K cl fn fi)) (he : PE X e (cE X.K cl fn fe)) : PS X (.Assign [.Subscript o i tp] e pos) (cS X.K cl fn ⟨sSetI fo fi fe⟩) := by
  refine (ps_asg he (pg_sub ho hi (set_all hu) (asg_sub hs)) (swap_sub hc) (stores_one rfl) rfl).of fun D σ H ⟨m, env, h, en, r, k⟩ => ?_
  have k : OkS X.K cl fn (match fe.run env h with
    | .ok v h1 => match fo.run env h1 with
      | .ok ov h2 => match fi.run env h2 with
        | .ok iv h3 => setIV ov iv v h3 fun h4 => .ok (.nx env) h4
        | .no n => .no n
      | .no n => .no n
    | .no n => .no n) m H D := k
  cases z : fe.run env h with
  | no n => rw [z] at k; exact k.elim
  | ok v h1 =>
    rw [z] at k
    refine cE.bind en r (fun v' h1' z' m1 H1 x g1 r1 e1 q => ?_) (fun n z' => by rw [z] at z'; cases z')
    rw [z] at z'; cases z'
    have k : OkS X.K cl fn (match fo.run env h1 with
      | .ok ov h2 => match fi.run env h2 with
        | .ok iv h3 => setIV ov iv v h3 fun h4 => .ok (.nx env) h4
        | .no n => .no n
      | .no n => .no n) m H D := k
    cases z2 : fo.run env h1 with
    | no n => rw [z2] at k; exact k.elim
    | ok ov h2 =>
      rw [z2] at k
      refine cE.bind e1 r1 (fun v' h2' z2' m2 H2 y g2 r2 e2 q2 => ?_) (fun n z' => by rw [z2] at z'; cases z')
      rw [z2] at z2'; cases z2'
      have k : OkS X.K cl fn (match fi.run env h2 with
        | .ok iv h3 => setIV ov iv v h3 fun h4 => .ok (.nx env) h4
        | .no n => .no n) m H D := k
      cases z3 : fi.run env h2 with
      | no n => rw [z3] at k; exact k.elim
      | ok iv h3 =>
        rw [z3] at k
        refine cE.bind e2 r2 (fun v' h3' z3' m3 H3 y3 g3 r3 e3 q3 => ?_) (fun n z' => by rw [z3] at z'; cases z')
        rw [z3] at z3'; cases z3'
        rw [← hw]
        refine setI_ok r3 (q2.grow g3) q3 (q.grow (g2.trans g3)) (OkS.mono ((g1.trans g2).trans g3) k) fun h4 m4 H4 g4 r4 k4 => ?_
        exact OkS.here k4 r4 (e3.grow g4)
/-! ### x op= e -/
/-- op= by values -/
structure AugOk (X : Cx) (cl : Nat → Addr) (fn : Nm) (op : Operator) (o : Bop) : Prop where
  ex : ∃ r, OpR X (inplaceOp op) r ∧ OpV X.K cl fn (augV o) r
theorem or2 {f : Value → Value → Sem Value} {r r' : R2} (h : OpR X f r) (h' : OpR X f r') : OpR X f (fun x y H Q => r x y H Q ∨ r' x y H Q) := by
  intro pins s σ H x y v u Q I rx ry q
  rcases q with q | q
  · exact h pins s σ H x y v u Q I rx ry q
  · exact h' pins s σ H x y v u Q I rx ry q
theorem int_sub_ok {K : PySem.W.Frag} : OpV K cl fn bSub (rI0 fun i j => .int (i - j)) := ov_sub
theorem aug_add : AugOk X cl fn .Add .add := by
  refine ⟨_, or2 iop_add (or2 iop_add_str iop_ext), ?_⟩
  intro m H h p q x y Q r vp vq k
  cases p with
  | int i =>
    cases q with
    | int j =>
      cases vp; cases vq
      exact .inl ⟨i, j, rfl, rfl, OkE.give (v := .int (i + j)) k r (.int _)⟩
    | _ => exact (show False from k).elim
  | str s =>
    cases q with
    | str t =>
      cases vp; cases vq
      have k : OkE X.K cl fn (match sizeOk (strLen s + strLen t) with
        | true => .ok (.str (s ++ t)) h
        | false => .no 6) m H Q := k
      cases z : sizeOk (strLen s + strLen t) with
      | false => rw [z] at k; exact k.elim
      | true =>
        rw [z] at k
        exact .inr (.inl ⟨s, t, rfl, rfl, sizeOk_le z, k.give r (.str _)⟩)
    | _ => exact (show False from k).elim
  | ref n =>
    have k : OkE X.K cl fn (match h.get n with
      | some (.lst xs) => match lstOf q h with
        | some ys => match sizeOk (xs.length + ys.length) with
          | true => .ok (.ref n) (h.put n (.lst (xs ++ ys)))
          | false => .no 151
        | none => .no 151
      | _ => .no 151) m H Q := k
    obtain ⟨a, rfl, ha⟩ := vp.ref_inv
    cases z : h.get n with
    | none => rw [z] at k; exact k.elim
    | some o =>
      rw [z] at k
      cases o with
      | lst xs =>
        obtain ⟨vs, h1, h2⟩ := r.lst z ha
        have k : OkE X.K cl fn (match lstOf q h with
          | some ys => match sizeOk (xs.length + ys.length) with
            | true => .ok (.ref n) (h.put n (.lst (xs ++ ys)))
            | false => .no 151
          | none => .no 151) m H Q := k
        cases z2 : lstOf q h with
        | none => rw [z2] at k; exact k.elim
        | some ys =>
          rw [z2] at k
          have k : OkE X.K cl fn (match sizeOk (xs.length + ys.length) with
            | true => .ok (.ref n) (h.put n (.lst (xs ++ ys)))
            | false => .no 151) m H Q := k
          cases z4 : sizeOk (xs.length + ys.length) with
          | false => rw [z4] at k; exact k.elim
          | true =>
            rw [z4] at k
            have k' := k
            clear k
            obtain ⟨n2, rfl, z3⟩ := lstOf_ok z2
            obtain ⟨b, rfl, hb⟩ := vq.ref_inv
            obtain ⟨ws, h3, h4⟩ := r.lst z3 hb
            have k := k'
            have := sizeOk_le z4
            exact .inr (.inr ⟨a, b, vs, ws, rfl, rfl, h1, h3, by rw [← h2.length, ← h4.length]; omega, OkE.put k r z ha h1 (h2.append h4) (.ref ha)⟩)
      | _ => exact (show False from k).elim
  | _ => exact (show False from k).elim
theorem aug_sub : AugOk X cl fn .Sub .sub := ⟨_, iop_sub, ov_sub⟩
theorem aug_mul : AugOk X cl fn .Mult .mul := by
  refine ⟨_, iop_mul, ?_⟩
  intro m H h p q x y Q r vp vq k
  cases p with
  | int i =>
    cases q with
    | int j =>
      cases vp; cases vq
      have k : OkE X.K cl fn (match bound64 i || bound64 j with
        | true => .ok (.int (i * j)) h
        | false => .no 2) m H Q := k
      have hh := ov_mul (cl := cl) (fn := fn) (K := X.K) m H h (.int i) (.int j) (.int i) (.int j) Q r (.int i) (.int j) k
      rcases hh with (hh | hh) | hh
      · exact hh
      · obtain ⟨a, _, _, e, _⟩ := hh
        cases e
      · obtain ⟨a, _, _, e, _⟩ := hh
        cases e
    | _ => exact (show False from k).elim
  | _ => exact (show False from k).elim
theorem ps_augC {i : Nat} {x : Str} {e : Expr} {f : Ee} {op : Operator} {o : Bop} {pos' : Pos} (ha : AugOk X cl fn op o) (hN : X.N.Nodup) (hi : X.N[i]? = some x) (hx : Loc X.env.scope x) (he : PE X e (cE X.K cl fn f)) (hf : X.fn x = true ∨ X.env.scope.names.lookup x = some .local) :
    PS X (.AugAssign (.Name x pos') op e pos) (cS X.K cl fn ⟨sAug i o f⟩) := by
  obtain ⟨r, h1, h2⟩ := ha.ex
  refine (ps_aug hN hi hx he h1 hf).of fun D σ H ⟨m, env, h, en, rr, k⟩ => ?_
  have k : OkS X.K cl fn (match eget env i with
    | some v => match f.run env h with
      | .ok w h1 => match augV o v w h1 with
        | .ok z h2 => .ok (.nx (eset env i z)) h2
        | .no n => .no n
      | .no n => .no n
    | none => .no 151) m H D := k
  cases z : eget env i with
  | none => rw [z] at k; exact k.elim
  | some v =>
    rw [z] at k
    obtain ⟨xv, e1, q1⟩ := en.get z
    refine ⟨xv, e1, ?_⟩
    have k : OkS X.K cl fn (match f.run env h with
      | .ok w h1 => match augV o v w h1 with
        | .ok z h2 => .ok (.nx (eset env i z)) h2
        | .no n => .no n
      | .no n => .no n) m H D := k
    cases z2 : f.run env h with
    | no n => rw [z2] at k; exact k.elim
    | ok w h1 =>
      rw [z2] at k
      refine cE.bind en rr (fun v' h2' z2' m2 H2 y g2 r2 e2 q2 => ?_) (fun n z' => by rw [z2] at z'; cases z')
      rw [z2] at z2'; cases z2'
      have k : OkS X.K cl fn (match augV o v w h1 with
        | .ok z h2 => .ok (.nx (eset env i z)) h2
        | .no n => .no n) m H D := k
      refine h2 m2 H2 h1 v w xv y _ r2 (q1.grow g2) q2 ?_
      cases z3 : augV o v w h1 with
      | no n => rw [z3] at k; exact k.elim
      | ok p h3 =>
        rw [z3] at k
        exact fun m3 H3 u g3 r3 q3 => OkS.here (OkS.mono (g2.trans g3) k) r3 ((e2.grow g3).set q3 i)
/-! ### a if t else b as a test -/
theorem pt_iteC {t a b : Expr} {ft fa fb : Et} (ht : PT X t (cT X.K cl fn ft)) (ha : PT X a (cT X.K cl fn fa)) (hb : PT X b (cT X.K cl fn fb)) : PT X (.IfExp t a b pos) (cT X.K cl fn ⟨tIte ft fa fb⟩) := by
  refine ⟨fun pins s σ H Q I ⟨m, env, h, e, r, k⟩ => ?_⟩
  have k : OkT X.K cl fn (match ft.run env h with
    | .ok k h1 => match k with
      | true => fa.run env h1
      | false => fb.run env h1
    | .no n => .no n) m H Q := k
  show wpAny _ _ (do if ← isTrue t X.env (eval t X.env) then isTrue a X.env (eval a X.env) else isTrue b X.env (eval b X.env)) _ _ s
  refine wpAny_bind (thn (ht.run pins s σ H (fun c H1 => ∃ m1 h1, ft.run env h = .ok c h1 ∧ Grow m H m1 H1 ∧ EnvR X.K m1 H1 env σ ∧ HR X.K cl fn m1 H1 h1) I ?_) fun c s1 ⟨H1, I1, m1, h1, z, g, e1, r1⟩ => ?_)
  · refine cT.bind e r (fun c h1 z m1 H1 g1 r1 e1 => ⟨m1, h1, z, g1, e1, r1⟩) (fun n z => by rw [z] at k; exact k)
  · rw [z] at k
    cases c with
    | true => exact ha.run pins s1 σ H1 Q I1 ⟨m1, env, h1, e1, r1, OkT.mono g k⟩
    | false => exact hb.run pins s1 σ H1 Q I1 ⟨m1, env, h1, e1, r1, OkT.mono g k⟩
end
end Ev

set_option Elab.async false
set_option linter.all false
set_option maxRecDepth 100000
/-! Ev17: constants of the module, X.index of constant rows; pairs of names. -/
namespace Ev
open PySem PySem.Spec PyProof.Rows L2

/-- a constant of the module -/
def ConOk (K : PySem.W.Frag) (mg : Str → Option Value) (x : Str) (p : PV) : Prop :=
  ∃ u v, mg x = some u ∧ RelV v u ∧ (∀ m H, VR K m H p v) ∧ ∀ xs, p = .tup xs → ∃ a o, v = .ref a ∧ K.lookup a = some o ∧ o.cls = .type "tuple" ∧ o.dict = none
section
variable {X : Cx} {cl : Nat → Addr} {fn : Nm} {pos : Pos}
theorem pe_conC {x : Str} {p : PV} (h : ConOk X.K X.mg x p) (hg : Gl X x) (hd : (x == ("__debug__" : Str)) = false) : PE X (.Name x pos) (cE X.K cl fn ⟨eLit p⟩) := by
  obtain ⟨u, v, h1, h2, h3, _⟩ := h
  exact pe_litC (pe_glob hg h1 h2 hd) h3
theorem strIx_ok {z : Str} : ∀ {ys : List Str} {k i : Nat}, strIx z k ys = some i → ∃ j, i = k + j ∧ ys[j]? = some z ∧ ∀ m, m < j → ys[m]? ≠ some z
  | [], _, _, e => by cases e
  | y :: ys, k, i, e => by
    have e : (match strEq y z with
      | true => some k
      | false => strIx z (k + 1) ys) = some i := e
    cases q : strEq y z with
    | true =>
      rw [q] at e; cases e
      rw [strEq_eq] at q
      exact ⟨0, rfl, by rw [of_decide_eq_true q]; rfl, fun m hm => absurd hm (Nat.not_lt_zero _)⟩
    | false =>
      rw [q] at e
      rw [strEq_eq] at q
      obtain ⟨j, h1, h2, h3⟩ := strIx_ok e
      refine ⟨j + 1, by omega, by simpa using h2, fun m hm => ?_⟩
      cases m with
      | zero =>
        intro e0
        have : y = z := by simpa using e0
        exact of_decide_eq_false q this
      | succ m =>
        rw [List.getElem?_cons_succ]
        exact h3 m (by omega)
theorem strs_vals {K : PySem.W.Frag} {m : List Addr} {H : Hp} : ∀ {ps : List PV} {ys : List Str} {vs : List V}, strsOf ps = some ys → VRs K m H ps vs → vs = ys.map V.str
  | [], _, _, e, .nil => by cases e; rfl
  | p :: ps, ys, _, e, .cons r t => by
    cases p with
    | str x =>
      have e : (match strsOf ps with
        | some xs => some (x :: xs)
        | none => none) = some ys := e
      cases z : strsOf ps with
      | none => rw [z] at e; cases e
      | some zs =>
        rw [z] at e; cases e
        cases r
        rw [strs_vals z t]
        rfl
    | _ => cases e
theorem pe_cixC {x : Str} {p : Pos} {ps : List PV} {ys : List Str} {e : Expr} {f : Ee} {apos cpos : Pos} (h : ConOk X.K X.mg x (.tup ps)) (hy : strsOf ps = some ys) (hg : Gl X x) (hd : (x == ("__debug__" : Str)) = false) (hs : isStar e = false) (he : PE X e (cE X.K cl fn f)) (hline : (apos.endLine == cpos.line) = true) :
    PE X (.Call (.Attribute (.Name x p) "index" apos) [e] [] cpos) (cE X.K cl fn ⟨e1 (cixV ys) f⟩) := by
  obtain ⟨u, v, h1, h2, h3, h4⟩ := h
  obtain ⟨a, o, rfl, h5, h6, h7⟩ := h4 _ rfl
  have hst : anyStar [e] = false := by
    show (match isStar e with
      | true => true
      | false => anyStar []) = false
    rw [hs]; rfl
  refine (pe_bm PySem.F.plainAttrs_tuple PySem.F.slot_tuple_index PySem.F.type_tuple_index mt_tup_index (pe_glob hg h1 h2 hd) (pa_consC (cl := cl) (fn := fn) hs he pa_nilC) (base_ok rfl) (hfew_ok hst (by show 1 < 28; omega)) hline (star_no hs) rfl).of fun σ H Q ⟨m, env, hh, en, r, k⟩ => ?_
  refine ⟨.inr (.inl ⟨rfl, o, h5, h6, h7⟩), ?_⟩
  have k : OkE X.K cl fn (match f.run env hh with
    | .ok v h1 => cixV ys v h1
    | .no n => .no n) m H Q := k
  cases z : f.run env hh with
  | no n => rw [z] at k; exact k.elim
  | ok v hh1 =>
    rw [z] at k
    have zl : evL [f] env hh = .ok [v] hh1 := by
      show (match f.run env hh with
        | .ok v h1 => match evL [] env h1 with
          | .ok vs h2 => R.ok (v :: vs) h2
          | .no n => .no n
        | .no n => .no n) = _
      rw [z]; rfl
    refine cL.bind en r (fun vs' h1' z' m1 H1 xs g r1 e1 q => ?_) (fun n z' => by rw [zl] at z'; cases z')
    rw [zl] at z'; cases z'
    obtain ⟨y, rfl, qy⟩ := q.one_inv
    have k : OkE X.K cl fn (cixV ys v hh1) m H Q := k
    cases v with
    | str s =>
      have k : OkE X.K cl fn (match strIx s 0 ys with
        | some i => .ok (.int i) hh1
        | none => .no 71) m H Q := k
      cases qy
      cases z3 : strIx s 0 ys with
      | none => rw [z3] at k; exact k.elim
      | some i =>
        rw [z3] at k
        obtain ⟨j, e1, e2, e3⟩ := strIx_ok z3
        obtain rfl : i = j := by omega
        obtain ⟨a', vs, ea, hq, hvs⟩ := (h3 m1 H1).tup_inv
        cases ea
        rw [strs_vals hy hvs] at hq
        exact ⟨a, ys, s, i, rfl, rfl, hq, e2, e3, OkE.give (OkE.mono g k) r1 (.int _)⟩
    | _ => exact (show False from k).elim
/-! ### a, b = x, y -/
theorem swap_tup {ts : List Expr} {k : Nat} {tp : Pos} {e : Expr} {l : Nat} {env : PySem.Env} : swapsWithSole [.Tuple ts k tp] e l env = pure false := by
  cases e <;> rfl
theorem findIx_ok {α : Type} {p : α → Bool} : ∀ {l : List α} {i : Nat}, findIx p l = some i → ∃ a, l[i]? = some a ∧ p a = true
  | [], _, e => by cases e
  | a :: l, i, e => by
    have e : (match p a with
      | true => some 0
      | false => match findIx p l with
        | some i => some (i + 1)
        | none => none) = some i := e
    cases z : p a with
    | true => rw [z] at e; cases e; exact ⟨a, rfl, z⟩
    | false =>
      rw [z] at e
      have e : (match findIx p l with
        | some i => some (i + 1)
        | none => none) = some i := e
      cases z2 : findIx p l with
      | none => rw [z2] at e; cases e
      | some j =>
        rw [z2] at e; cases e
        obtain ⟨b, h1, h2⟩ := findIx_ok z2
        exact ⟨b, by simpa using h1, h2⟩
theorem nameIx_ok {N : List Str} {x : Str} {i : Nat} (e : nameIx N x = some i) : N[i]? = some x := by
  obtain ⟨a, h1, h2⟩ := findIx_ok e
  rw [strEq_eq] at h2
  rw [← of_decide_eq_true h2]
  exact h1
theorem setKind_ok {sc : Scope} {x : Str} : setKindOk sc x = (sc.names.lookup x == some .local) := by
  unfold setKindOk kindIn
  cases sc.names.lookup x with
  | none => rfl
  | some k => cases k <;> rfl
theorem natBeq_eq (a b : Nat) : Nat.beq a b = (a == b) := by
  rw [Bool.eq_iff_iff]
  simp
def parSel (sc : Scope) (l : Nat) : Expr → Option Str
  | .Name id pos => if sc.names.lookup id == some .local && pos.line == l then some id else none
  | _ => none
theorem parNames_eq (sc : Scope) (l : Nat) : ∀ ts : List Expr, parNames sc l ts = ts.filterMap (parSel sc l)
  | [] => rfl
  | t :: ts => by
    have ih := parNames_eq sc l ts
    cases t with
    | Name x p =>
      have e : parNames sc l (.Name x p :: ts) = (match setKindOk sc x && Nat.beq p.line l with
        | true => x :: parNames sc l ts
        | false => parNames sc l ts) := rfl
      have e2 : parSel sc l (.Name x p) = if sc.names.lookup x == some .local && p.line == l then some x else none := rfl
      rw [e, setKind_ok, natBeq_eq, ih, List.filterMap_cons, e2]
      cases h : (sc.names.lookup x == some .local && p.line == l) <;> simp
    | _ => exact ih
theorem any_congr' {α : Type} {f g : α → Bool} : ∀ {l : List α}, (∀ a ∈ l, f a = g a) → l.any f = l.any g
  | [], _ => rfl
  | a :: l, h => by
    rw [List.any_cons, List.any_cons, h a (List.mem_cons_self ..), any_congr' fun b hb => h b (List.mem_cons_of_mem _ hb)]
theorem anyStar_eq : ∀ es : List Expr, es.any isStar = anyStar es
  | [] => rfl
  | e :: es => by
    have ih := anyStar_eq es
    have e2 : anyStar (e :: es) = (match isStar e with
      | true => true
      | false => anyStar es) := rfl
    rw [e2, ← ih, List.any_cons]
    cases isStar e <;> rfl
theorem parHow_ok {sc : Scope} {ts vs : List Expr} {k k2 : Nat} {p p2 : Pos} {env : PySem.Env} {b : Bool} (hsc : env.scope = sc) (hk : env.blockKind = .function) (e : parHow sc ts vs = some b) :
    swappedStores [.Tuple ts k p] (.Tuple vs k2 p2) env = pure (if b = true then some (parNames sc ((ts.head?.map fun t => t.pos.line).getD 0) ts) else none) := by
  unfold swappedStores
  unfold parHow at e
  have hko : ∀ x, env.kindOf x = sc.names.lookup x := fun x => by rw [← hsc]; rfl
  simp only [hk, hko]
  rw [any_congr' (g := isStar) (fun a _ => by cases a <;> rfl), anyStar_eq, fm_congr (g := parSel sc ((ts.head?.map fun t => t.pos.line).getD 0)) (fun a _ => by cases a <;> rfl), ← parNames_eq]
  simp only [natBeq_eq] at e
  cases h1 : (ts.length == 2 || ts.length == 3) with
  | false =>
    rw [h1] at e
    have : b = false := by simpa using e.symm
    subst this
    simp
  | true =>
    rw [h1] at e
    cases h2 : (vs.length == ts.length) with
    | false =>
      rw [h2] at e
      have : b = false := by simpa using e.symm
      subst this
      have : (vs.length != ts.length) = true := by simp only [bne, h2]; rfl
      simp [this]
    | true =>
      rw [h2] at e
      have h2' : (vs.length != ts.length) = false := by simp only [bne, h2]; rfl
      cases h3 : anyStar vs with
      | true =>
        rw [h3] at e
        have : b = false := by simpa using e.symm
        subst this
        simp
      | false =>
        rw [h3] at e
        generalize parNames sc ((ts.head?.map fun t => t.pos.line).getD 0) ts = ns at e ⊢
        simp only [] at e
        cases h4 : (ns.length == ts.length && ns.eraseDups.length == ns.length) with
        | false =>
          rw [h4] at e
          have : b = false := by simpa using e.symm
          subst this
          have : (ns.length != ts.length || ns.eraseDups.length != ns.length) = true := by
            simp only [bne]
            cases q : (ns.length == ts.length) with
            | false => rfl
            | true => rw [q] at h4; simp at h4; simp [h4]
          simp [h2', this]
        | true =>
          rw [h4] at e
          have : (ns.length != ts.length || ns.eraseDups.length != ns.length) = false := by
            simp only [bne]
            obtain ⟨q1, q2⟩ := Bool.and_eq_true_iff.mp h4
            rw [q1, q2]; rfl
          cases h5 : vs.all (foldedForSure 8) with
          | true =>
            rw [h5] at e
            have : b = false := by simpa using e.symm
            subst this
            simp [*]
          | false =>
            rw [h5] at e
            cases h6 : vs.all (constantsAlone 8) with
            | true => rw [h6] at e; cases e
            | false =>
              rw [h6] at e
              have : b = true := by simpa using e.symm
              subst this
              simp [*]
theorem parHow_true {sc : Scope} {ts vs : List Expr} (e : parHow sc ts vs = some true) : (ts.length = 2 ∨ ts.length = 3) ∧ vs.length = ts.length ∧ (parNames sc ((ts.head?.map fun t => t.pos.line).getD 0) ts).length = ts.length ∧
    (parNames sc ((ts.head?.map fun t => t.pos.line).getD 0) ts).eraseDups.length = (parNames sc ((ts.head?.map fun t => t.pos.line).getD 0) ts).length := by
  unfold parHow at e
  simp only [natBeq_eq] at e
  cases h1 : (ts.length == 2 || ts.length == 3) with
  | false => rw [h1] at e; simp at e
  | true =>
    rw [h1] at e
    cases h2 : (vs.length == ts.length) with
    | false => rw [h2] at e; simp at e
    | true =>
      rw [h2] at e
      cases h3 : anyStar vs with
      | true => rw [h3] at e; simp at e
      | false =>
        rw [h3] at e
        simp only [] at e
        cases h4 : ((parNames sc ((ts.head?.map fun t => t.pos.line).getD 0) ts).length == ts.length && (parNames sc ((ts.head?.map fun t => t.pos.line).getD 0) ts).eraseDups.length == (parNames sc ((ts.head?.map fun t => t.pos.line).getD 0) ts).length) with
        | false => rw [h4] at e; simp at e
        | true =>
          obtain ⟨q1, q2⟩ := Bool.and_eq_true_iff.mp h4
          refine ⟨?_, eq_of_beq h2, eq_of_beq q1, eq_of_beq q2⟩
          rcases Bool.or_eq_true_iff.mp h1 with h | h
          · exact .inl (eq_of_beq h)
          · exact .inr (eq_of_beq h)
theorem parNames_le (sc : Scope) (l : Nat) (ts : List Expr) : (parNames sc l ts).length ≤ ts.length := by
  rw [parNames_eq]
  exact List.length_filterMap_le _ _
/-- the first one is a name -/
theorem parNames_cons {sc : Scope} {l : Nat} {t : Expr} {ts : List Expr} (e : (parNames sc l (t :: ts)).length = (t :: ts).length) : ∃ x p, t = .Name x p ∧ sc.names.lookup x = some .local ∧ parNames sc l (t :: ts) = x :: parNames sc l ts ∧ (parNames sc l ts).length = ts.length := by
  have le := parNames_le sc l ts
  cases t with
  | Name x p =>
    have e2 : parNames sc l (.Name x p :: ts) = (match setKindOk sc x && Nat.beq p.line l with
      | true => x :: parNames sc l ts
      | false => parNames sc l ts) := rfl
    cases h : setKindOk sc x && Nat.beq p.line l with
    | false =>
      rw [h] at e2
      rw [e2] at e
      simp at e
      omega
    | true =>
      rw [h] at e2
      obtain ⟨h1, h2⟩ := Bool.and_eq_true_iff.mp h
      rw [setKind_ok] at h1
      refine ⟨x, p, rfl, eq_of_beq h1, e2, ?_⟩
      rw [e2] at e
      simpa using e
  | _ =>
    have e : (parNames sc l ts).length = ts.length + 1 := e
    omega
theorem parOf_cons {N : List Str} {sc : Scope} {x : Str} {p : Pos} {ts : List Expr} {is : List Nat} (e : parOf N sc (.Name x p :: ts) = some is) : ∃ i js, is = i :: js ∧ N[i]? = some x ∧ parOf N sc ts = some js := by
  have e : (match kindIn sc x with
    | some .local => match nameIx N x, parOf N sc ts with
      | some i, some is => some (i :: is)
      | _, _ => none
    | _ => none) = some is := e
  cases h : kindIn sc x with
  | none => rw [h] at e; cases e
  | some k =>
    rw [h] at e
    cases k with
    | «local» =>
      have e : (match nameIx N x, parOf N sc ts with
        | some i, some is => some (i :: is)
        | _, _ => none) = some is := e
      cases h1 : nameIx N x with
      | none => rw [h1] at e; cases e
      | some i =>
        cases h2 : parOf N sc ts with
        | none => rw [h1, h2] at e; cases e
        | some js => rw [h1, h2] at e; cases e; exact ⟨i, js, rfl, nameIx_ok h1, rfl⟩
    | _ => cases e
theorem ne_of_at {N : List Str} {i j : Nat} {x y : Str} (h1 : N[i]? = some x) (h2 : N[j]? = some y) (h : x ≠ y) : i ≠ j := by
  rintro rfl
  rw [h1] at h2
  exact h (Option.some.inj h2)
theorem dedup2 {x y : Str} (h : [x, y].eraseDups.length = 2) : x ≠ y := by
  rintro rfl
  simp [List.eraseDups_cons] at h
theorem dedup3 {x y z : Str} (h : [x, y, z].eraseDups.length = 3) : x ≠ y ∧ x ≠ z ∧ y ≠ z := by
  refine ⟨?_, ?_, ?_⟩
  · rintro rfl
    rw [List.eraseDups_cons] at h
    simp at h
    by_cases hz : z = x
    · subst hz; simp at h
    · simp [hz, List.eraseDups_cons] at h
  · rintro rfl
    rw [List.eraseDups_cons] at h
    simp at h
    by_cases hz : y = x
    · subst hz; simp at h
    · simp [hz, List.eraseDups_cons] at h
  · rintro rfl
    rw [List.eraseDups_cons] at h
    simp at h
    by_cases hz : y = x
    · subst hz; simp at h
    · simp [hz, List.eraseDups_cons] at h
theorem vrs_len {K : PySem.W.Frag} {m : List Addr} {H : Hp} {ps : List PV} {vs : List V} (q : VRs K m H ps vs) : vs.length = ps.length := q.length.symm
theorem ps_parC {ts vs : List Expr} {k k2 : Nat} {p p2 : Pos} {fs : List Ee} {is : List Nat} (hc : X.calm = true) (hN : X.N.Nodup) (hk : X.env.blockKind = .function) (hp : parHow X.env.scope ts vs = some true) (hi : parOf X.N X.env.scope ts = some is) (ha : PA X vs (cL X.K cl fn fs)) (hfs : fs.length = vs.length) :
    PS X (.Assign [.Tuple ts k p] (.Tuple vs k2 p2) pos) (cS X.K cl fn ⟨sPar is fs⟩) := by
  have hw := parHow_ok (k := k) (k2 := k2) (p := p) (p2 := p2) rfl hk hp
  rw [if_pos rfl] at hw
  obtain ⟨h1, h2, h3, h4⟩ := parHow_true hp
  generalize hl : (ts.head?.map fun t => t.pos.line).getD 0 = l at hw h3 h4
  have run : ∀ {σ : L2.St} {H : Hp} {D : Ends}, cS X.K cl fn ⟨sPar is fs⟩ D σ H → cL X.K cl fn fs σ H fun xs H1 => xs.length = fs.length ∧ ∃ m1 env h1 ps, EnvR X.K m1 H1 env σ ∧ HR X.K cl fn m1 H1 h1 ∧ VRs X.K m1 H1 ps xs ∧ OkS X.K cl fn (.ok (.nx (setAll is ps env)) h1) m1 H1 D := fun {σ H D} ⟨m, env, h, en, r, kk⟩ => by
    have kk : OkS X.K cl fn (match evL fs env h with
      | .ok vs h1 => .ok (.nx (setAll is vs env)) h1
      | .no n => .no n) m H D := kk
    cases z : evL fs env h with
    | no n => rw [z] at kk; exact kk.elim
    | ok ps h1 =>
      rw [z] at kk
      refine cL.bind en r (fun vs' h1' z' m1 H1 xs g r1 e1 q => ?_) (fun n z' => by rw [z] at z'; cases z')
      rw [z] at z'; cases z'
      exact ⟨by rw [vrs_len q, evL_length z], m1, env, h1, ps, e1, r1, q, OkS.mono g kk⟩
  rcases h1 with h1 | h1
  · match ts, vs, h1, h2, hw, h3, h4, hi, ha, hfs with
    | [t1, t2], [v1, v2], _, _, hw, h3, h4, hi, ha, hfs =>
      obtain ⟨x, px, rfl, lx, e1, r1⟩ := parNames_cons h3
      obtain ⟨y, py, rfl, ly, e2, _⟩ := parNames_cons r1
      obtain ⟨i, js, rfl, nx, hi⟩ := parOf_cons hi
      obtain ⟨j, ks, rfl, ny, hi⟩ := parOf_cons hi
      cases hi
      have e3 : parNames X.env.scope l [] = [] := rfl
      rw [e1, e2, e3] at hw h4
      have hxy := dedup2 h4
      refine (ps_par hc hN nx ny (ne_of_at nx ny hxy) lx ly ha hw swap_tup).of fun D σ H w => ?_
      obtain ⟨m, env, h, en, r, kk⟩ := run w
      refine ⟨m, env, h, en, r, ?_⟩
      cases z : evL fs env h with
      | no n => rw [z] at kk; exact kk
      | ok ps h1 =>
        rw [z] at kk
        intro m1 H1 xs g1 r1 q1
        obtain ⟨ln, m2, env2, h2, ps2, en2, r2, q2, k2⟩ := kk m1 H1 xs g1 r1 q1
        have hlen : xs.length = 2 := by rw [ln, hfs]; rfl
        match xs, hlen, q2 with
        | [v, w], _, q2 =>
          match ps2, q2, k2 with
          | [a, b], q2, k2 =>
            obtain ⟨_, _, ee, qa, qb⟩ := q2.two_inv
            cases ee
            exact ⟨v, w, rfl, OkS.here k2 r2 ((en2.set qa i).set qb j)⟩
          | [], q2, _ => cases q2
          | [_], q2, _ => cases q2 with | cons _ q => cases q
          | _ :: _ :: _ :: _, q2, _ => cases q2 with | cons _ q => cases q with | cons _ q => cases q
  · match ts, vs, h1, h2, hw, h3, h4, hi, ha, hfs with
    | [t1, t2, t3], [v1, v2, v3], _, _, hw, h3, h4, hi, ha, hfs =>
      obtain ⟨x, px, rfl, lx, e1, r1⟩ := parNames_cons h3
      obtain ⟨y, py, rfl, ly, e2, r2⟩ := parNames_cons r1
      obtain ⟨z, pz, rfl, lz, e4, _⟩ := parNames_cons r2
      obtain ⟨i, js, rfl, nx, hi⟩ := parOf_cons hi
      obtain ⟨j, ks, rfl, ny, hi⟩ := parOf_cons hi
      obtain ⟨l3, ls, rfl, nz, hi⟩ := parOf_cons hi
      cases hi
      have e3 : parNames X.env.scope l [] = [] := rfl
      rw [e1, e2, e4, e3] at hw h4
      obtain ⟨d1, d2, d3⟩ := dedup3 h4
      refine (ps_par3 hc hN nx ny nz (ne_of_at nx ny d1) (ne_of_at nx nz d2) (ne_of_at ny nz d3) lx ly lz ha hw swap_tup).of fun D σ H w => ?_
      obtain ⟨m, env, h, en, r, kk⟩ := run w
      refine ⟨m, env, h, en, r, ?_⟩
      cases z : evL fs env h with
      | no n => rw [z] at kk; exact kk
      | ok ps h1 =>
        rw [z] at kk
        intro m1 H1 xs g1 r1 q1
        obtain ⟨ln, m2, env2, h2, ps2, en2, r2, q2, k2⟩ := kk m1 H1 xs g1 r1 q1
        have hlen : xs.length = 3 := by rw [ln, hfs]; rfl
        match xs, hlen, q2 with
        | [v, w, u], _, q2 =>
          cases q2 with
          | cons qa q2 => cases q2 with
            | cons qb q2 => cases q2 with
              | cons qc q2 =>
                cases q2
                exact ⟨v, w, u, rfl, OkS.here k2 r2 (((en2.set qa i).set qb j).set qc l3)⟩
end
end Ev

set_option Elab.async false
set_option linter.all false
set_option maxRecDepth 100000
/-! Ev18: calls of the text's own functions. -/
namespace Ev
open PySem PySem.Spec PyProof.Rows L2

/-! ### how parameters are bound -/
/-- the bound values: written ones (true), defaults' (false) -/
def pickA {α : Type} (xs ds : List α) : List (Bool × Nat) → List α
  | [] => []
  | (true, i) :: r => (xs[i]?).toList ++ pickA xs ds r
  | (false, i) :: r => (ds[i]?).toList ++ pickA xs ds r
theorem vals_opt {vs : List V} {us : List Value} (h : Vals vs us) (i : Nat) : Vals (vs[i]?).toList (us[i]?).toList := by
  cases e : vs[i]? with
  | none =>
    have : us[i]? = none := by
      rw [List.getElem?_eq_none_iff] at e ⊢
      rw [← h.length]; exact e
    rw [this]; exact .nil
  | some v =>
    obtain ⟨u, h1, h2⟩ := h.get e
    rw [h1]; exact .cons h2 .nil
theorem pickA_vals {vs ds : List V} {us its : List Value} (h : Vals vs us) (h2 : Vals ds its) : ∀ l : List (Bool × Nat), Vals (pickA vs ds l) (pickA us its l)
  | [] => .nil
  | (true, i) :: r => (vals_opt h i).append (pickA_vals h h2 r)
  | (false, i) :: r => (vals_opt h2 i).append (pickA_vals h h2 r)
/-- what arguments stand for -/
inductive ArL (K : PySem.W.Frag) (dvs : List V) : List Ar → List (Bool × Nat) → Prop
  | nil : ArL K dvs [] []
  | a {i : Nat} {ar : List Ar} {l : List (Bool × Nat)} : ArL K dvs ar l → ArL K dvs (.a i :: ar) ((true, i) :: l)
  | d {j : Nat} {p : PV} {v : V} {ar : List Ar} {l : List (Bool × Nat)} : dvs[j]? = some v → (∀ m H, VR K m H p v) → ArL K dvs ar l → ArL K dvs (.d p :: ar) ((false, j) :: l)
theorem argsOf_ok {K : PySem.W.Frag} {dvs : List V} {m : List Addr} {H : Hp} {pv : List PV} {vs : List V} (q : VRs K m H pv vs) : ∀ {ar : List Ar} {l : List (Bool × Nat)} {ws : List PV}, ArL K dvs ar l → argsOf pv ar = some ws → VRs K m H ws (pickA vs dvs l)
  | _, _, _, .nil, e => by cases e; exact .nil
  | _, _, ws, .a (i := i) (ar := ar) (l := l) r, e => by
    have e : (match listAt pv i with
      | some v => match argsOf pv ar with
        | some ws => some (v :: ws)
        | none => none
      | none => none) = some ws := e
    cases z : listAt pv i with
    | none => rw [z] at e; cases e
    | some p =>
      rw [z] at e
      have e : (match argsOf pv ar with
        | some ws => some (p :: ws)
        | none => none) = some ws := e
      cases z2 : argsOf pv ar with
      | none => rw [z2] at e; cases e
      | some zs =>
        rw [z2] at e; cases e
        obtain ⟨v, h1, h2⟩ := q.at z
        show VRs K m H (p :: zs) ((vs[i]?).toList ++ pickA vs dvs l)
        rw [h1]
        exact .cons h2 (argsOf_ok q r z2)
  | _, _, ws, .d (j := j) (p := p) (ar := ar) (l := l) h0 h1 r, e => by
    have e : (match argsOf pv ar with
      | some ws => some (p :: ws)
      | none => none) = some ws := e
    cases z2 : argsOf pv ar with
    | none => rw [z2] at e; cases e
    | some zs =>
      rw [z2] at e; cases e
      show VRs K m H (p :: zs) ((dvs[j]?).toList ++ pickA vs dvs l)
      rw [h0]
      exact .cons (h1 m H) (argsOf_ok q r z2)
/-- how a call binds: n values, keywords ks; ar tells where each parameter's value stands -/
def BnOk (K : PySem.W.Frag) (fd : FuncData) (ps : List Str) (n : Nat) (ks : List Str) (ar : List Ar) : Prop :=
  ∃ g gV, KBn K fd ps n ks g gV ∧ ∀ m H pv v1 v2 ws, VRs K m H pv (v1 ++ v2) → argsOf pv ar = some ws → VRs K m H ws (gV v1 v2)
section
variable {K : PySem.W.Frag} {x qual : Str} {params : Arguments} {body : List Stmt} {scope : Scope} {dvs : List V} {kws : List (Str × V)} {f : Addr} {fd : FuncData} {ps : List Str}
theorem bn_of {ds : List V} {its : List Value} {n : Nat} {ks : List Str} {ar : List Ar} {l : List (Bool × Nat)} (hd : Vals ds its) (hl : ArL K ds ar l) (to : ∀ (s : Shared) (us ws : List Value), K.In s.heap → us.length = n → ws.length = ks.length → BindsTo s fd ⟨us, ks.zip ws⟩ (ps.zip (pickA (us ++ ws) its l))) : BnOk K fd ps n ks ar :=
  ⟨fun us ws => pickA (us ++ ws) its l, fun v1 v2 => pickA (v1 ++ v2) ds l, ⟨to, fun r1 r2 => pickA_vals (r1.append r2) hd l⟩, fun m H pv v1 v2 ws q e => argsOf_ok q hl e⟩
/-- no positional defaults, no keyword-only one lacks -/
theorem bn_A (F : FunD K x qual params body scope [] kws f fd) (n : Nat) (ks : List Str) (ar : List Ar) (l : List (Bool × Nat)) (hl : ArL K [] ar l)
    (h : ∀ (kV doc pm : Value) (an : Option Addr) (cdv ct : Value) (us ws : List Value), us.length = n → ws.length = ks.length → bindArgs (PySem.W.fnOf x qual params body scope .none kV doc pm an cdv ct) ⟨us, ks.zip ws⟩ = pure (ps.zip (pickA (us ++ ws) [] l))) : BnOk K fd ps n ks ar := by
  obtain ⟨oc, od, dV, kV, doc, pm, an, cdv, ct, osl, rfl, lk, hcd, hD, hK⟩ := F.ex
  rcases hD with ⟨_, rfl⟩ | ⟨e, _⟩
  · exact bn_of .nil hl fun s us ws X l1 l2 => .of_eq (h kV doc pm an cdv ct us ws l1 l2)
  · exact absurd rfl e
/-- no positional defaults; ms: the keyword-only ones that lack -/
theorem bn_B (F : FunD K x qual params body scope [] kws f fd) (n : Nat) (ks : List Str) (ms : List (Str × V)) (ar : List Ar) (l : List (Bool × Nat)) (hk : kws ≠ []) (hms : ∀ q ∈ ms, q ∈ kws) (hl : ArL K (ms.map (·.2)) ar l)
    (h : ∀ (D : Addr) (doc pm : Value) (an : Option Addr) (cdv ct : Value) (us mv ws : List Value), us.length = n → mv.length = ms.length → ws.length = ks.length →
      KwChain D ((ms.map (·.1)).zip mv) (bindArgs (PySem.W.fnOf x qual params body scope .none (.ref D) doc pm an cdv ct) ⟨us, ks.zip ws⟩) (ps.zip (pickA (us ++ ws) mv l))) : BnOk K fd ps n ks ar := by
  obtain ⟨oc, od, dV, kV, doc, pm, an, cdv, ct, osl, rfl, lk, hcd, hD, hK⟩ := F.ex
  rcases hD with ⟨_, rfl⟩ | ⟨e, _⟩
  · rcases hK with e | ⟨D, rfl, hq⟩
    · exact absurd e hk
    · obtain ⟨mv, hm, rk, hks⟩ := kwd_vals (ms := ms) fun q hm => hq q (hms q hm)
      exact bn_of rk hl fun s us ws X l1 l2 => BindsTo.of_looks fun M => KwChain.looks X hks (h D doc pm an cdv ct us mv ws l1 hm l2)
  · exact absurd rfl e
/-- positional defaults, no keyword-only one lacks -/
theorem bn_C (F : FunD K x qual params body scope dvs kws f fd) (n : Nat) (ks : List Str) (ar : List Ar) (l : List (Bool × Nat)) (hd : dvs ≠ []) (hl : ArL K dvs ar l)
    (h : ∀ (T : Addr) (kV doc pm : Value) (an : Option Addr) (cdv ct : Value) (us its ws : List Value), us.length = n → its.length = dvs.length → ws.length = ks.length →
      ∃ k, bindArgs (PySem.W.fnOf x qual params body scope (.ref T) kV doc pm an cdv ct) ⟨us, ks.zip ws⟩ = seqItems? (.ref T) >>= k ∧ k (some its.toArray) = pure (ps.zip (pickA (us ++ ws) its l))) : BnOk K fd ps n ks ar := by
  obtain ⟨oc, od, dV, kV, doc, pm, an, cdv, ct, osl, rfl, lk, hcd, hD, hK⟩ := F.ex
  rcases hD with ⟨e, _⟩ | ⟨_, T, o, its, m, rfl, lT, oT, rT⟩
  · exact absurd e hd
  · refine bn_of rT hl fun s us ws X l1 l2 => ?_
    obtain ⟨k, e1, e2⟩ := h T kV doc pm an cdv ct us its ws l1 rT.length.symm l2
    refine BindsTo.of_looks fun M => ?_
    rw [e1]
    exact looks_items X lT oT (.of_pure e2)
/-- both -/
theorem bn_D (F : FunD K x qual params body scope dvs kws f fd) (n : Nat) (ks : List Str) (ms : List (Str × V)) (ar : List Ar) (l : List (Bool × Nat)) (hd : dvs ≠ []) (hk : kws ≠ []) (hms : ∀ q ∈ ms, q ∈ kws) (hl : ArL K (dvs ++ ms.map (·.2)) ar l)
    (h : ∀ (T D : Addr) (doc pm : Value) (an : Option Addr) (cdv ct : Value) (us its mv ws : List Value), us.length = n → its.length = dvs.length → mv.length = ms.length → ws.length = ks.length →
      ∃ k, bindArgs (PySem.W.fnOf x qual params body scope (.ref T) (.ref D) doc pm an cdv ct) ⟨us, ks.zip ws⟩ = seqItems? (.ref T) >>= k ∧ KwChain D ((ms.map (·.1)).zip mv) (k (some its.toArray)) (ps.zip (pickA (us ++ ws) (its ++ mv) l))) : BnOk K fd ps n ks ar := by
  obtain ⟨oc, od, dV, kV, doc, pm, an, cdv, ct, osl, rfl, lk, hcd, hD, hK⟩ := F.ex
  rcases hD with ⟨e, _⟩ | ⟨_, T, o, its, m, rfl, lT, oT, rT⟩
  · exact absurd e hd
  · rcases hK with e | ⟨D, rfl, hq⟩
    · exact absurd e hk
    · obtain ⟨mv, hm, rk, hks⟩ := kwd_vals (ms := ms) fun q hm => hq q (hms q hm)
      refine bn_of (rT.append rk) hl fun s us ws X l1 l2 => ?_
      obtain ⟨k, e1, e2⟩ := h T D doc pm an cdv ct us its mv ws l1 rT.length.symm hm l2
      refine BindsTo.of_looks fun M => ?_
      rw [e1]
      exact looks_items X lT oT (KwChain.looks X hks e2)
end

/-! ### keywords -/
theorem kw_names : ∀ {kws : List Keyword} {ks : List Str} (pos : Pos) (env : PySem.Env), kwNames kws = some ks →
    (backToKw pos (keywordEach kws env)).all (·.1.isSome) = true ∧ (backToKw pos (keywordEach kws env)).filterMap (·.1) = ks ∧ (backToKw pos (keywordEach kws env)).any (·.1.isNone) = false ∧ ks.length = kws.length
  | [], _, _, _, e => by cases e; exact ⟨rfl, rfl, rfl, rfl⟩
  | ⟨nm, v, p⟩ :: r, ks, pos, env, e => by
    cases nm with
    | none => cases e
    | some x =>
      have e : (match kwNames r with
        | some xs => some (x :: xs)
        | none => none) = some ks := e
      cases z : kwNames r with
      | none => rw [z] at e; cases e
      | some xs =>
        rw [z] at e; cases e
        obtain ⟨h1, h2, h3, h4⟩ := kw_names pos env z
        refine ⟨?_, ?_, ?_, by rw [List.length_cons, List.length_cons, h4]⟩
        · show (true && (backToKw pos (keywordEach r env)).all (·.1.isSome)) = true
          rw [h1]; rfl
        · show x :: (backToKw pos (keywordEach r env)).filterMap (·.1) = x :: xs
          rw [h2]
        · show (false || (backToKw pos (keywordEach r env)).any (·.1.isNone)) = false
          rw [h3]; rfl
section
variable {X : Cx} {cl : Nat → Addr} {fn : Nm} {pos : Pos}
theorem PK.of {X : Cx} {e : List Keyword} {t t' : TA} (h : PK X e t) (w : ∀ σ H Q, t' σ H Q → t σ H Q) : PK X e t' := ⟨fun pos pins s σ H Q I q => h.run pos pins s σ H Q I (w σ H Q q)⟩
theorem pk_nilC : PK X [] (cL X.K cl fn []) := by
  refine PK.of pk_nil fun σ H Q ⟨m, env, h, e, r, k⟩ => ?_
  have k : OkL X.K cl fn (.ok [] h) m H Q := k
  exact k m H [] (Grow.refl m H) r .nil
theorem pk_consC {nm : Option Str} {kp : Pos} {e : Expr} {kws : List Keyword} {f : Ee} {fs : List Ee} (he : PE X e (cE X.K cl fn f)) (ha : PK X kws (cL X.K cl fn fs)) : PK X (⟨nm, e, kp⟩ :: kws) (cL X.K cl fn (f :: fs)) := by
  refine PK.of (pk_cons he ha) fun σ H Q ⟨m, env, h, e, r, k⟩ => ?_
  have k : OkL X.K cl fn (match f.run env h with
    | .ok v h1 => match evL fs env h1 with
      | .ok vs h2 => .ok (v :: vs) h2
      | .no n => .no n
    | .no n => .no n) m H Q := k
  cases z : f.run env h with
  | no n => rw [z] at k; exact k.elim
  | ok v h1 =>
    rw [z] at k
    have k : OkL X.K cl fn (match evL fs env h1 with
      | .ok vs h2 => .ok (v :: vs) h2
      | .no n => .no n) m H Q := k
    cases z2 : evL fs env h1 with
    | no n => rw [z2] at k; exact k.elim
    | ok vs h2 =>
      rw [z2] at k
      refine cE.bind e r (fun v' h1' z' m1 H1 x g r1 e1 q => ?_) (fun n z' => by rw [z] at z'; cases z')
      rw [z] at z'; cases z'
      refine cL.bind e1 r1 (fun vs' h2' z2' m2 H2 xs g2 r2 e2 q2 => ?_) (fun n z' => by rw [z2] at z'; cases z')
      rw [z2] at z2'; cases z2'
      exact k m2 H2 _ (g.trans g2) r2 (.cons (q.grow g2) q2)
theorem evL_app : ∀ (fs gs : List Ee) (env : Env) (h : Hh), evL (fs ++ gs) env h = match evL fs env h with
    | .ok vs h1 => match evL gs env h1 with
      | .ok ws h2 => .ok (vs ++ ws) h2
      | .no n => .no n
    | .no n => .no n
  | [], gs, env, h => by
    show evL gs env h = (match evL gs env h with
      | .ok ws h2 => .ok ([] ++ ws) h2
      | .no n => .no n)
    cases evL gs env h <;> rfl
  | f :: fs, gs, env, h => by
    show (match f.run env h with
      | .ok v h1 => match evL (fs ++ gs) env h1 with
        | .ok vs h2 => R.ok (v :: vs) h2
        | .no n => .no n
      | .no n => .no n) = _
    have e : evL (f :: fs) env h = match f.run env h with
      | .ok v h1 => match evL fs env h1 with
        | .ok vs h2 => R.ok (v :: vs) h2
        | .no n => .no n
      | .no n => .no n := rfl
    rw [e]
    cases z : f.run env h with
    | no n => rfl
    | ok v h1 =>
      show (match evL (fs ++ gs) env h1 with
        | .ok vs h2 => R.ok (v :: vs) h2
        | .no n => .no n) = _
      rw [evL_app fs gs env h1]
      cases z2 : evL fs env h1 with
      | no n => simp only [z2]
      | ok vs h2 =>
        simp only [z2]
        cases evL gs env h2 <;> rfl
/-- what a function's call is for: by the evaluator's call -/
def spOf (K : PySem.W.Frag) (cl : Nat → Addr) (fn : Nm) (f : List PV → Hh → R PV) (n : Nat) : Sp := fun vs H Q _ => vs.length = n ∧ ∃ m pvs h, VRs K m H pvs vs ∧ HR K cl fn m H h ∧ OkE K cl fn (f pvs h) m H Q
theorem hp0_get (n : Nat) : hp0.get n = none := by
  show T.get .leaf n = none
  rw [T.get_leaf]
theorem hr0 {K : PySem.W.Frag} {cl : Nat → Addr} {fn : Nm} {H : Hp} : HR K cl fn [] H hp0 where
  nx := rfl
  small := Nat.zero_le _
  nd := List.nodup_nil
  free := fun n o e => by rw [hp0_get] at e; cases e
  ob := fun n o e => by rw [hp0_get] at e; cases e
  all := fun a h => by cases h
mutual
theorem vr_pure {K : PySem.W.Frag} {m m' : List Addr} {H : Hp} : ∀ {d : Nat} {p : PV} {v : V}, pureV d p = true → VR K m H p v → VR K m' H p v
  | 0, _, _, e, _ => by cases e
  | d + 1, _, _, _, .non => .non
  | d + 1, _, _, _, .bl b => .bl b
  | d + 1, _, _, _, .int i => .int i
  | d + 1, _, _, _, .str x => .str x
  | d + 1, _, _, e, .tup h hs => .tup h (vrs_pure (d := d) e hs)
  | d + 1, _, _, e, .fro _ _ => by cases e
  | d + 1, _, _, e, .ref _ => by cases e
theorem vrs_pure {K : PySem.W.Frag} {m m' : List Addr} {H : Hp} : ∀ {d : Nat} {ps : List PV} {vs : List V}, allP (pureV d) ps = true → VRs K m H ps vs → VRs K m' H ps vs
  | _, _, _, _, .nil => .nil
  | _, _, _, e, .cons h hs => .cons (vr_pure (allP_cons e).1 h) (vrs_pure (allP_cons e).2 hs)
end
/-- a call that makes nothing that is looked at again -/
theorem sp_pure {K : PySem.W.Frag} {cl : Nat → Addr} {fn : Nm} {f : List PV → Hh → R PV} {n : Nat} : ∀ vs H Q E, spOf K cl fn (pureF f) n vs H Q E → spOf K cl fn f n vs H Q E := by
  intro vs H Q E ⟨hl, m, pvs, h, q, r, k⟩
  refine ⟨hl, ?_⟩
  have k : OkE K cl fn (match allP (pureV dpP) pvs with
    | true => match f pvs hp0 with
      | .ok v _ => match pureV dpP v with
        | true => .ok v h
        | false => .no 300
      | .no n => .no n
    | false => f pvs h) m H Q := k
  cases z : allP (pureV dpP) pvs with
  | false => rw [z] at k; exact ⟨m, pvs, h, q, r, k⟩
  | true =>
    rw [z] at k
    have k : OkE K cl fn (match f pvs hp0 with
      | .ok v _ => match pureV dpP v with
        | true => .ok v h
        | false => .no 300
      | .no n => .no n) m H Q := k
    refine ⟨[], pvs, hp0, vrs_pure z q, hr0, ?_⟩
    cases z2 : f pvs hp0 with
    | no c => rw [z2] at k; exact k.elim
    | ok v h1 =>
      rw [z2] at k
      have k : OkE K cl fn (match pureV dpP v with
        | true => .ok v h
        | false => .no 300) m H Q := k
      cases z3 : pureV dpP v with
      | false => rw [z3] at k; exact k.elim
      | true =>
        rw [z3] at k
        intro m1 H1 x g r1 qv
        have all : ∀ a o, H a = some o → H1 a = some o := fun a o e => g.out a o e (by simp)
        have g' : Grow m H m H1 := by
          refine ⟨⟨[], by simp, fun _ z => by cases z⟩, fun a xs e => all a _ e, fun a o u e => all a _ e, fun a e => ?_, fun a o e _ => all a o e⟩
          cases y : H a with
          | none => exact absurd y e
          | some o => rw [all a o y]; simp
        refine k m H1 x g' ⟨r.nx, r.small, r.nd, r.free, fun n o e => ?_, fun a ha => g'.kept a (r.all a ha)⟩ (vr_pure z3 qv)
        obtain ⟨a, h1, h2⟩ := r.ob n o e
        refine ⟨a, h1, OR.keep g'.o ?_ h2⟩
        cases y : H a with
        | none => exact absurd y (r.all a (List.mem_of_getElem? h1))
        | some o => exact all a o y
theorem call_read {F : List PV → Hh → R PV} {fs gs : List Ee} {ar : List Ar} {n : Nat} {gV : List V → List V → List V} {E : XK} {np : Nat} (hl : fs.length = n) (hr : ∀ m H pv v1 v2 ws, VRs X.K m H pv (v1 ++ v2) → argsOf pv ar = some ws → VRs X.K m H ws (gV v1 v2))
    (hp : ar.length = np) {σ : L2.St} {H : Hp} {Q : VK} (w : cE X.K cl fn ⟨eCall F (fs ++ gs) ar⟩ σ H Q) : tCallN n gs.length (spOf X.K cl fn F np) gV E (cL X.K cl fn fs) (cL X.K cl fn gs) σ H Q := by
  obtain ⟨m, env, h, e, rr, k⟩ := w
  have k : OkE X.K cl fn (match evL (fs ++ gs) env h with
    | .ok vs h1 => match argsOf vs ar with
      | some ws => F ws h1
      | none => .no 137
    | .no n => .no n) m H Q := k
  rw [evL_app] at k
  cases z : evL fs env h with
  | no n => rw [z] at k; exact k.elim
  | ok vs h1 =>
    rw [z] at k
    simp only [] at k
    cases z2 : evL gs env h1 with
    | no n => rw [z2] at k; exact k.elim
    | ok ws h2 =>
      rw [z2] at k
      have k : OkE X.K cl fn (match argsOf (vs ++ ws) ar with
        | some ws => F ws h2
        | none => .no 137) m H Q := k
      cases z3 : argsOf (vs ++ ws) ar with
      | none => rw [z3] at k; exact k.elim
      | some us =>
        rw [z3] at k
        refine cL.bind e rr (fun v' h1' z' m1 H1 xs g1 r1 e1 q => ?_) (fun n z' => by rw [z] at z'; cases z')
        rw [z] at z'; cases z'
        refine cL.bind e1 r1 (fun v' h2' z2' m2 H2 ys g2 r2 e2 q2 => ?_) (fun n z' => by rw [z2] at z'; cases z')
        rw [z2] at z2'; cases z2'
        have qq := hr m2 H2 _ xs ys us ((q.grow g2).append q2) z3
        refine ⟨by rw [vrs_len q, evL_length z, hl], by rw [vrs_len q2, evL_length z2], ?_, m2, us, h2, qq, r2, OkE.mono (g1.trans g2) k⟩
        rw [vrs_len qq, ← hp]
        exact argsOf_len z3
where
  argsOf_len : ∀ {pv : List PV} {ar : List Ar} {us : List PV}, argsOf pv ar = some us → us.length = ar.length
    | _, [], _, e => by cases e; rfl
    | pv, .a i :: r, us, e => by
      have e : (match listAt pv i with
        | some v => match argsOf pv r with
          | some ws => some (v :: ws)
          | none => none
        | none => none) = some us := e
      cases z : listAt pv i with
      | none => rw [z] at e; cases e
      | some p =>
        rw [z] at e
        have e : (match argsOf pv r with
          | some ws => some (p :: ws)
          | none => none) = some us := e
        cases z2 : argsOf pv r with
        | none => rw [z2] at e; cases e
        | some zs => rw [z2] at e; cases e; rw [List.length_cons, List.length_cons, argsOf_len z2]
    | pv, .d p :: r, us, e => by
      have e : (match argsOf pv r with
        | some ws => some (p :: ws)
        | none => none) = some us := e
      cases z2 : argsOf pv r with
      | none => rw [z2] at e; cases e
      | some zs => rw [z2] at e; cases e; rw [List.length_cons, List.length_cons, argsOf_len z2]
/-- a callee lets nothing out -/
theorem passL {E : XK} (hE : ∀ c d H, ¬ E c d H) : Passes (L2.CX X.prog X.w) X E := fun pins σ H s e s' I ⟨_, _, _, _, _, _, _, _, _, _, _, _, h⟩ => absurd h (hE _ _ _)
theorem pe_callN0 {CX : CXT} {k : Nat} {f : Addr} {fd : FuncData} {ps ks : List Str} {sp : Sp} {E : XK} {x : Str} {p pos : Pos} {kws : List Keyword} {tk : TA} {g : List Value → List Value → List Value} {gV : List V → List V → List V} (F : FnOk X.prog X.w X.K X.mg X.base CX k f fd ps sp) (hr : Room k X.A) (hg : Gl X x) (hm : X.mg x = some (.ref f)) (hk : PySem.W.keepIn X.K (.ref f) = true) (hb : KBn X.K fd ps 0 ks g gV) (hx : Passes CX X E)
    (hkw : PK X kws tk) (hall : (backToKw pos (keywordEach kws X.env)).all (·.1.isSome) = true) (hks : (backToKw pos (keywordEach kws X.env)).filterMap (·.1) = ks)
    (hdb : (x == ("__debug__" : Str)) = false) (hpl : ((backTo pos (starEach [] X.env)).any (·.1) || (backToKw pos (keywordEach kws X.env)).any (·.1.isNone)) = false) :
    PE X (.Call (.Name x p) [] kws pos) (tCallN 0 ks.length sp gV E tNil tk) := by
  refine ⟨fun pins s σ H Q I h => ?_⟩
  refine wpAny_Call_Name_kw (ld_glob I hg hm ?_ hdb)
  refine PySem.W.callWith_KW0 (h₀ := X.base) I.ok.mod.kin hk hall ?_ hpl
  refine thn (hkw.run pos pins s σ H _ I h) fun ws s2 ⟨zs, H2, I2, rz, l1, l2, q2⟩ => ⟨I2.kIn, ?_⟩
  rw [hks]
  exact run_fnN (us := []) (vs := []) F hr hb hx I2 .nil rz rfl l2 q2
theorem tail_stars {es : List Expr} (hs : anyStar es = false) (pos : Pos) (env : PySem.Env) : (backTo pos (starEach es env)).any (·.1) = false := by rw [back_any, stars_no _ hs]
theorem pe_callC {k : Nat} {f : Addr} {fd : FuncData} {ps ks : List Str} {x : Str} {p : Pos} {es : List Expr} {kws : List Keyword} {fs gs : List Ee} {ar : List Ar} {F : List PV → Hh → R PV} (hF : FnOk X.prog X.w X.K X.mg X.base (L2.CX X.prog X.w) k f fd ps (spOf X.K cl fn F ps.length)) (hr : Room k X.A) (hg : Gl X x) (hm : X.mg x = some (.ref f)) (hk : PySem.W.keepIn X.K (.ref f) = true)
    (hb : BnOk X.K fd ps es.length ks ar) (har : ar.length = ps.length) (hkn : kwNames kws = some ks) (hs : anyStar es = false) (ha : PA X es (cL X.K cl fn fs)) (hfs : fs.length = es.length) (hkw : PK X kws (cL X.K cl fn gs)) (hgs : gs.length = kws.length) (hdb : (x == ("__debug__" : Str)) = false) :
    PE X (.Call (.Name x p) es kws pos) (cE X.K cl fn ⟨eCall F (fs ++ gs) ar⟩) := by
  obtain ⟨g, gV, hb, hrr⟩ := hb
  obtain ⟨k1, k2, k3, k4⟩ := kw_names pos X.env hkn
  have hlen : gs.length = ks.length := by rw [hgs, k4]
  cases es with
  | nil =>
    cases fs with
    | cons _ _ => cases hfs
    | nil =>
      refine (pe_callN0 hF hr hg hm hk hb (passL (E := fun _ _ _ => False) fun _ _ _ h => h) hkw k1 k2 hdb (by rw [k3]; rfl)).of fun σ H Q w => ?_
      have q := call_read (X := X) (n := 0) (fs := []) (gs := gs) (gV := gV) (E := fun _ _ _ => False) (np := ps.length) rfl hrr har w
      rw [hlen] at q
      obtain ⟨m, env, h, e, r, k⟩ := q
      exact k m H [] (Grow.refl m H) r .nil
  | cons e es =>
    obtain ⟨s1, s2⟩ := anyStar_cons hs
    refine (pe_callN hF hr hg hm hk hb (passL (E := fun _ _ _ => False) fun _ _ _ h => h) ha hkw k1 k2 hdb (star_no s1) (by rw [tail_stars hs, k3]; rfl)).of fun σ H Q w => ?_
    have q := call_read (X := X) (n := (e :: es).length) (fs := fs) (gs := gs) (gV := gV) (E := fun _ _ _ => False) (np := ps.length) hfs hrr har w
    rw [hlen] at q
    exact q
end
end Ev

set_option Elab.async false
set_option linter.all false
set_option maxRecDepth 100000
/-! EvO: own objects: fields, methods, making. -/
namespace Ev
open PySem PySem.Spec PyProof.Rows L2

section
variable {K : PySem.W.Frag} {cl : Nat → Addr} {fn : Nm} {m : List Addr} {H : Hp} {h : Hh}
theorem lookF_ok {i : Nat} {p : PV} (hi : i < fn.n) : ∀ {fs : List (Nat × PV)} {vs : List V}, VRs K m H (fs.map (·.2)) vs → (∀ q ∈ fs, q.1 < fn.n) → lookF i fs = some p → ∃ v, ((fs.map fun q => fn.f q.1).zip vs).lookup (fn.f i) = some v ∧ VR K m H p v ∧ ∃ w, (i, w) ∈ fs
  | [], _, _, _, e => by cases e
  | (g, w) :: fs, vs, q, hn, e => by
    cases q with
    | @cons _ _ v vs q1 q2 =>
      have e : (match Nat.beq g i with
        | true => some w
        | false => lookF i fs) = some p := e
      have hg : g < fn.n := hn _ (List.mem_cons_self ..)
      show ∃ u, List.lookup (fn.f i) ((fn.f g, v) :: (fs.map fun q => fn.f q.1).zip vs) = some u ∧ _
      cases z : Nat.beq g i with
      | true =>
        rw [z] at e
        cases e
        have := Nat.eq_of_beq_eq_true z
        subst this
        exact ⟨v, by rw [List.lookup_cons, beq_self_eq_true], q1, _, List.mem_cons_self ..⟩
      | false =>
        rw [z] at e
        have hne : g ≠ i := Nat.ne_of_beq_eq_false z
        have hf : (fn.f i == fn.f g) = false := by
          rw [beq_eq_false_iff_ne]
          exact fun e => hne (fn.inj g i hg hi e.symm)
        obtain ⟨u, h1, h2, w', h3⟩ := lookF_ok hi q2 (fun q hq => hn q (List.mem_cons_of_mem _ hq)) e
        exact ⟨u, by rw [List.lookup_cons, hf]; exact h1, h2, w', List.mem_cons_of_mem _ h3⟩
theorem putFs_ok {i : Nat} {p : PV} {y : V} (hi : i < fn.n) (hy : VR K m H p y) : ∀ {fs : List (Nat × PV)} {vs : List V}, VRs K m H (fs.map (·.2)) vs → (∀ q ∈ fs, q.1 < fn.n) →
    ∃ ws, putF (fn.f i) y ((fs.map fun q => fn.f q.1).zip vs) = ((putFs i p fs).map fun q => fn.f q.1).zip ws ∧ VRs K m H ((putFs i p fs).map (·.2)) ws
  | [], _, .nil, _ => ⟨[y], rfl, .cons hy .nil⟩
  | (g, w) :: fs, vs, q, hn => by
    cases q with
    | @cons _ _ v vs q1 q2 =>
      have hg : g < fn.n := hn _ (List.mem_cons_self ..)
      have e1 : putFs i p ((g, w) :: fs) = (match Nat.beq g i with
        | true => (g, p) :: fs
        | false => (g, w) :: putFs i p fs) := rfl
      show ∃ ws, (if fn.f g = fn.f i then (fn.f g, y) :: (fs.map fun q => fn.f q.1).zip vs else (fn.f g, v) :: putF (fn.f i) y ((fs.map fun q => fn.f q.1).zip vs)) = _ ∧ _
      rw [e1]
      cases z : Nat.beq g i with
      | true =>
        have := Nat.eq_of_beq_eq_true z
        subst this
        rw [if_pos rfl]
        exact ⟨y :: vs, rfl, .cons hy q2⟩
      | false =>
        have hne : g ≠ i := Nat.ne_of_beq_eq_false z
        rw [if_neg fun e => hne (fn.inj g i hg hi e)]
        obtain ⟨ws, h1, h2⟩ := putFs_ok hi hy q2 fun q hq => hn q (List.mem_cons_of_mem _ hq)
        exact ⟨v :: ws, by rw [h1]; rfl, .cons q1 h2⟩
theorem putFs_mem {i : Nat} {p : PV} : ∀ {fs : List (Nat × PV)} {q : Nat × PV}, q ∈ putFs i p fs → q.1 = i ∨ ∃ w, (q.1, w) ∈ fs
  | [], q, h => by
    have h : q ∈ [(i, p)] := h
    rw [List.mem_singleton] at h
    exact .inl (by rw [h])
  | (g, w) :: fs, q, h => by
    have h : q ∈ (match Nat.beq g i with
      | true => (g, p) :: fs
      | false => (g, w) :: putFs i p fs) := h
    cases z : Nat.beq g i with
    | true =>
      rw [z] at h
      rcases List.mem_cons.mp h with e | h
      · exact .inl (by rw [e]; exact Nat.eq_of_beq_eq_true z)
      · exact .inr ⟨q.2, List.mem_cons_of_mem _ h⟩
    | false =>
      rw [z] at h
      rcases List.mem_cons.mp h with e | h
      · subst e; exact .inr ⟨w, List.mem_cons_self ..⟩
      · rcases putFs_mem h with e | ⟨w', h'⟩
        · exact .inl e
        · exact .inr ⟨w', List.mem_cons_of_mem _ h'⟩
theorem hasF_mem {i : Nat} : ∀ {fs : List (Nat × PV)}, hasF i fs = true → ∃ w, (i, w) ∈ fs
  | [], h => by cases h
  | (g, w) :: fs, h => by
    have h : (match Nat.beq g i with
      | true => true
      | false => hasF i fs) = true := h
    cases z : Nat.beq g i with
    | true => rw [← Nat.eq_of_beq_eq_true z]; exact ⟨w, List.mem_cons_self ..⟩
    | false =>
      rw [z] at h
      obtain ⟨w', h'⟩ := hasF_mem h
      exact ⟨w', List.mem_cons_of_mem _ h'⟩
theorem HR.ins (r : HR K cl fn m H h) {n c : Nat} {a : Addr} {fs : List (Nat × PV)} (e : h.get n = some (.ins c fs)) (ha : m[n]? = some a) : ∃ dx vs, H a = some (.ins (cl c) dx ((fs.map fun q => fn.f q.1).zip vs)) ∧ VRs K m H (fs.map (·.2)) vs ∧ Cls K (cl c) ∧ ∀ q ∈ fs, q.1 < fn.n ∧ NoAttr K (cl c) (fn.f q.1) := by
  obtain ⟨b, h1, h2⟩ := r.ob n _ e
  rw [ha] at h1
  cases h1
  exact h2
/-- what the classes' table promises -/
def OkFs (K : PySem.W.Frag) (cl : Nat → Addr) (fn : Nm) (cls : List ClsC) : Prop := ∀ c f, okF cls c f = true → f < fn.n ∧ NoAttr K (cl c) (fn.f f)
end
section
variable {X : Cx} {cl : Nat → Addr} {fn : Nm} {pos : Pos} {cls : List ClsC}
theorem pe_fldC {o : Expr} {x : Str} {i : Nat} {f : Ee} (hx : fn.f i = x) (hi : i < fn.n) (hb : baseOk o = true) (ho : PE X o (cE X.K cl fn f)) : PE X (.Attribute o x pos) (cE X.K cl fn ⟨e1 (fldV i) f⟩) := by
  refine (pe_fld ho (base_ok hb)).of fun σ H Q w => one (r1 := fun u H1 Q => ∃ a C dx fs v, u = .ref a ∧ H1 a = some (.ins C dx fs) ∧ Cls X.K C ∧ NoAttr X.K C x ∧ fs.lookup x = some v ∧ Q v H1) (fun m H h p u Q r q k => ?_) w
  cases p with
  | ref n =>
    have k : OkE X.K cl fn (match h.get n with
      | some (.ins _ fs) => match lookF i fs with
        | some v => .ok v h
        | none => .no 44
      | _ => .no 42) m H Q := k
    obtain ⟨a, rfl, ha⟩ := q.ref_inv
    cases z : h.get n with
    | none => rw [z] at k; exact k.elim
    | some ob =>
      rw [z] at k
      cases ob with
      | ins c fs =>
        have k : OkE X.K cl fn (match lookF i fs with
          | some v => .ok v h
          | none => .no 44) m H Q := k
        cases z2 : lookF i fs with
        | none => rw [z2] at k; exact k.elim
        | some v =>
          rw [z2] at k
          obtain ⟨dx, vs, h1, h2, h3, h4⟩ := r.ins z ha
          obtain ⟨u, l1, l2, w', l3⟩ := lookF_ok hi h2 (fun q hq => (h4 q hq).1) z2
          subst hx
          exact ⟨a, cl c, dx, _, u, rfl, h1, h3, (h4 _ l3).2, l1, k.give r l2⟩
      | _ => exact (show False from k).elim
  | _ => exact (show False from k).elim
theorem swap_att {o e : Expr} {x : Str} {tp : Pos} {l : Nat} {env : PySem.Env} (hc : isComp e = false) : swapsWith e (some (.Attribute o x tp)) l env = pure false := swap_no' hc
where
  swap_no' {e t : Expr} {l : Nat} {env : PySem.Env} (h : isComp e = false) : swapsWith e (some t) l env = pure false := by
    cases e <;> first | rfl | cases h
theorem ps_setFC {o e : Expr} {x : Str} {i : Nat} {fo fe : Ee} {tp : Pos} (hok : OkFs X.K cl fn cls) (hx : fn.f i = x) (hi : i < fn.n) (hc : isComp e = false) (ho : PE X o (cE X.K cl fn fo)) (he : PE X e (cE X.K cl fn fe)) : PS X (.Assign [.Attribute o x tp] e pos) (cS X.K cl fn ⟨sSetF cls fo i fe⟩) := by
  refine (ps_fld ho he (swap_att hc)).of fun D σ H ⟨m, env, h, en, r, k⟩ => ?_
  have k : OkS X.K cl fn (match fe.run env h with
    | .ok v h1 => match fo.run env h1 with
      | .ok ov h2 => setFV (okF cls) ov i v h2 fun h3 => .ok (.nx env) h3
      | .no n => .no n
    | .no n => .no n) m H D := k
  cases z : fe.run env h with
  | no n => rw [z] at k; exact k.elim
  | ok v h1 =>
    rw [z] at k
    refine cE.bind en r (fun v' h1' z' m1 H1 y g1 r1 e1 q => ?_) (fun n z' => by rw [z] at z'; cases z')
    rw [z] at z'; cases z'
    have k : OkS X.K cl fn (match fo.run env h1 with
      | .ok ov h2 => setFV (okF cls) ov i v h2 fun h3 => .ok (.nx env) h3
      | .no n => .no n) m H D := k
    cases z2 : fo.run env h1 with
    | no n => rw [z2] at k; exact k.elim
    | ok ov h2 =>
      rw [z2] at k
      refine cE.bind e1 r1 (fun v' h2' z2' m2 H2 u g2 r2 e2 q2 => ?_) (fun n z' => by rw [z2] at z'; cases z')
      rw [z2] at z2'; cases z2'
      have k : OkS X.K cl fn (setFV (okF cls) ov i v h2 fun h3 => .ok (.nx env) h3) m H D := k
      have q := q.grow g2
      cases ov with
      | ref n =>
        have k : OkS X.K cl fn (match h2.get n with
          | some (.ins c fs) => match (hasF i fs || okF cls c i) && Nat.blt fs.length 1000 with
            | true => .ok (.nx env) (h2.put n (.ins c (putFs i v fs)))
            | false => .no 95
          | _ => .no 96) m H D := k
        obtain ⟨a, rfl, ha⟩ := q2.ref_inv
        cases z3 : h2.get n with
        | none => rw [z3] at k; exact k.elim
        | some ob =>
          rw [z3] at k
          cases ob with
          | ins c fs =>
            have k : OkS X.K cl fn (match (hasF i fs || okF cls c i) && Nat.blt fs.length 1000 with
              | true => .ok (.nx env) (h2.put n (.ins c (putFs i v fs)))
              | false => .no 95) m H D := k
            cases z4 : (hasF i fs || okF cls c i) && Nat.blt fs.length 1000 with
            | false => rw [z4] at k; exact k.elim
            | true =>
              rw [z4] at k
              obtain ⟨b1, b2⟩ := Bool.and_eq_true_iff.mp z4
              have hl : fs.length < 1000 := Nat.le_of_ble_eq_true b2
              obtain ⟨dx, vs, d1, d2, d3, d4⟩ := r2.ins z3 ha
              have na : NoAttr X.K (cl c) (fn.f i) := by
                rcases Bool.or_eq_true_iff.mp b1 with b | b
                · obtain ⟨w', hw⟩ := hasF_mem b
                  exact (d4 _ hw).2
                · exact (hok c i b).2
              obtain ⟨ws, p1, p2⟩ := putFs_ok hi q d2 fun q hq => (d4 q hq).1
              subst hx
              refine ⟨a, cl c, dx, _, rfl, d1, d3, na, ?_, ?_⟩
              · have hz : ((fs.map fun q => fn.f q.1).zip vs).length ≤ fs.length := by
                  rw [List.length_zip, List.length_map]
                  exact Nat.min_le_left _ _
                omega
              · rw [p1]
                have g3 : Grow m2 H2 m2 (upd H2 a (.ins (cl c) dx (((putFs i v fs).map fun q => fn.f q.1).zip ws))) := Grow.upd_mut (List.mem_of_getElem? ha) (fun xs e => by rw [d1] at e; cases e) (fun ob u e => by rw [d1] at e; cases e)
                refine OkS.here (OkS.mono ((g1.trans g2).trans g3) k) (r2.put (ob' := .ins c (putFs i v fs)) z3 ha g3 ⟨dx, ws, upd_same, p2.grow g3, d3, fun q hq => ?_⟩) (e2.grow g3)
                rcases putFs_mem hq with e | ⟨w', hw⟩
                · rw [e]; exact ⟨hi, na⟩
                · exact d4 (q.1, w') hw
          | _ => exact (show False from k).elim
      | _ => exact (show False from k).elim
/-! ### making -/
theorem pe_makeN0 {CX : CXT} {k : Nat} {f C : Addr} {fd : FuncData} {ps ks : List Str} {sp : Sp} {E : XK} {x : Str} {p pos : Pos} {kws : List Keyword} {tk : TA} {g : List Value → List Value → List Value} {gV : List V → List V → List V} (M : Mk X.K C f) (hF : FnOk X.prog X.w X.K X.mg X.base CX k f fd ps sp) (hr : Room (k + 1) X.A) (hg : Gl X x) (hm : X.mg x = some (.ref C)) (hb : KBn X.K fd ps (0 + 1) ks g gV) (hx : Passes CX X E)
    (hkw : PK X kws tk) (hall : (backToKw pos (keywordEach kws X.env)).all (·.1.isSome) = true) (hks : (backToKw pos (keywordEach kws X.env)).filterMap (·.1) = ks) (hdb : (x == ("__debug__" : Str)) = false)
    (hpl : ((backTo pos (starEach [] X.env)).any (·.1) || (backToKw pos (keywordEach kws X.env)).any (·.1.isNone)) = false) : PE X (.Call (.Name x p) [] kws pos) (tMakeN C 0 ks.length sp gV E tNil tk) := by
  refine ⟨fun pins s σ H Q I h => ?_⟩
  refine wpAny_Call_Name_kw (ld_glob I hg hm ?_ hdb)
  refine PySem.W.callWith_KW0 (h₀ := X.base) I.ok.mod.kin M.kp hall ?_ hpl
  refine thn (hkw.run pos pins s σ H _ I h) fun ws s2 ⟨zs, H2, I2, rz, l1, l2, q2⟩ => ⟨I2.kIn, ?_⟩
  rw [hks]
  exact run_makeN (us := []) (vs := []) M hF hr hb hx I2 .nil rz rfl l2 q2
theorem make_read {F : CallT} {fs gs : List Ee} {ar : List Ar} {n c g : Nat} {cc : ClsC} {gV : List V → List V → List V} {E : XK} {np : Nat} (hcl : clsAt cls c = some cc) (hini : cc.init = some g) (hC : Cls X.K (cl c)) (hl : fs.length = n) (hr : ∀ m H pv v1 v2 ws, VRs X.K m H pv (v1 ++ v2) → argsOf pv ar = some ws → VRs X.K m H ws (gV v1 v2))
    (hp : ar.length = np) {σ : L2.St} {H : Hp} {Q : VK} (w : cE X.K cl fn ⟨eMake cls F c (fs ++ gs) ar⟩ σ H Q) : tMakeN (cl c) n gs.length (spOf X.K cl fn (F g) np) gV E (cL X.K cl fn fs) (cL X.K cl fn gs) σ H Q := by
  obtain ⟨m, env, h, e, rr, k⟩ := w
  have k : OkE X.K cl fn (match evL (fs ++ gs) env h with
    | .ok vs h1 => match clsAt cls c with
      | some cl => match cl.init with
        | some g => match newOb (.ins c []) h1 with
          | .ok o h2 => match argsOf (o :: vs) ar with
            | some ws => mkEnd o (F g ws h2)
            | none => .no 139
          | .no n => .no n
        | none => .no 139
      | none => .no 139
    | .no n => .no n) m H Q := k
  rw [evL_app] at k
  cases z : evL fs env h with
  | no n => rw [z] at k; exact k.elim
  | ok vs h1 =>
    rw [z] at k
    simp only [] at k
    cases z2 : evL gs env h1 with
    | no n => rw [z2] at k; exact k.elim
    | ok ws h2 =>
      rw [z2] at k
      simp only [hcl, hini] at k
      refine cL.bind e rr (fun v' h1' z' m1 H1 xs g1 r1 e1 q => ?_) (fun n z' => by rw [z] at z'; cases z')
      rw [z] at z'; cases z'
      refine cL.bind e1 r1 (fun v' h2' z2' m2 H2 ys g2 r2 e2 q2 => ?_) (fun n z' => by rw [z2] at z'; cases z')
      rw [z2] at z2'; cases z2'
      refine ⟨by rw [vrs_len q, evL_length z, hl], by rw [vrs_len q2, evL_length z2], fun x dx hx hdx hne => ?_⟩
      have kn2 : h2.nx < 1000000000 := by
        unfold newOb at k
        cases zb : Nat.blt h2.nx 1000000000 with
        | false => rw [zb] at k; exact k.elim
        | true => exact Nat.le_of_ble_eq_true zb
      have kn1 : newOb (.ins c []) h2 = .ok (.ref h2.nx) (h2.new (.ins c [])) := by
        unfold newOb
        rw [show Nat.blt h2.nx 1000000000 = true from Nat.ble_eq_true_of_le kn2]
        simp only [frN_eq]
      rw [kn1] at k
      have k : OkE X.K cl fn (match argsOf (.ref h2.nx :: (vs ++ ws)) ar with
        | some ws => mkEnd (.ref h2.nx) (F g ws (h2.new (.ins c [])))
        | none => .no 139) m H Q := k
      cases z3 : argsOf (.ref h2.nx :: (vs ++ ws)) ar with
      | none => rw [z3] at k; exact k.elim
      | some us =>
        rw [z3] at k
        have k : OkE X.K cl fn (mkEnd (.ref h2.nx) (F g us (h2.new (.ins c [])))) m H Q := k
        -- the heap with the new object
        have ga : Grow m2 H2 m2 (upd H2 dx (.own x)) := Grow.upd_new0 hdx
        have ra : HR X.K cl fn m2 (upd H2 dx (.own x)) h2 := r2.tup hdx
        have hx' : (upd H2 dx (.own x)) x = none := by rw [upd_ne (Ne.symm hne)]; exact hx
        have gb : Grow m2 (upd H2 dx (.own x)) (m2 ++ [x]) (upd (upd H2 dx (.own x)) x (.ins (cl c) dx [])) := Grow.upd_new1 hx'
        have rb : HR X.K cl fn (m2 ++ [x]) (upd (upd H2 dx (.own x)) x (.ins (cl c) dx [])) (h2.new (.ins c [])) := ra.new hx' kn2 ⟨dx, [], upd_same, .nil, hC, fun q hq => by cases hq⟩
        have gg := ga.trans gb
        have hix : (m2 ++ [x])[h2.nx]? = some x := by
          rw [r2.nx, List.getElem?_append_right (Nat.le_refl _)]
          simp
        have qq := hr (m2 ++ [x]) _ (.ref h2.nx :: (vs ++ ws)) (.ref x :: xs) ys us (.cons (.ref hix) ((q.grow (g2.trans gg)).append (q2.grow gg))) z3
        refine ⟨?_, m2 ++ [x], us, h2.new (.ins c []), qq, rb, ?_⟩
        · rw [vrs_len qq, ← hp]
          exact call_read.argsOf_len z3
        · cases z5 : F g us (h2.new (.ins c [])) with
          | no n => rw [z5] at k; exact k.elim
          | ok r h3 =>
            rw [z5] at k
            have k : OkE X.K cl fn (match isNon r with
              | true => .ok (.ref h2.nx) h3
              | false => .no 139) m H Q := k
            cases z6 : isNon r with
            | false => rw [z6] at k; exact k.elim
            | true =>
              rw [z6] at k
              intro m4 H4 u g4 r4 q4
              have hu : u = .non := by
                have := isNon_ok q4
                rw [z6] at this
                exact of_decide_eq_true this.symm
              exact ⟨hu, k m4 H4 (.ref x) ((((g1.trans g2).trans ga).trans gb).trans g4) r4 (.ref (g4.at hix))⟩
theorem pe_makeC {k : Nat} {f : Addr} {fd : FuncData} {ps ks : List Str} {x : Str} {p : Pos} {es : List Expr} {kws : List Keyword} {fs gs : List Ee} {ar : List Ar} {F : CallT} {c g : Nat} {cc : ClsC} (hcl : clsAt cls c = some cc) (hini : cc.init = some g) (hC : Cls X.K (cl c)) (M : Mk X.K (cl c) f) (hF : FnOk X.prog X.w X.K X.mg X.base (L2.CX X.prog X.w) k f fd ps (spOf X.K cl fn (F g) ps.length)) (hr : Room (k + 1) X.A) (hg : Gl X x) (hm : X.mg x = some (.ref (cl c)))
    (hb : BnOk X.K fd ps (es.length + 1) ks ar) (har : ar.length = ps.length) (hkn : kwNames kws = some ks) (hs : anyStar es = false) (ha : PA X es (cL X.K cl fn fs)) (hfs : fs.length = es.length) (hkw : PK X kws (cL X.K cl fn gs)) (hgs : gs.length = kws.length) (hdb : (x == ("__debug__" : Str)) = false) :
    PE X (.Call (.Name x p) es kws pos) (cE X.K cl fn ⟨eMake cls F c (fs ++ gs) ar⟩) := by
  obtain ⟨g', gV, hb, hrr⟩ := hb
  obtain ⟨k1, k2, k3, k4⟩ := kw_names pos X.env hkn
  have hlen : gs.length = ks.length := by rw [hgs, k4]
  cases es with
  | nil =>
    cases fs with
    | cons _ _ => cases hfs
    | nil =>
      refine (pe_makeN0 M hF hr hg hm hb (passL (E := fun _ _ _ => False) fun _ _ _ h => h) hkw k1 k2 hdb (by rw [k3]; rfl)).of fun σ H Q w => ?_
      have q := make_read (X := X) (n := 0) (fs := []) (gs := gs) (gV := gV) (E := fun _ _ _ => False) (np := ps.length) hcl hini hC rfl hrr har w
      rw [hlen] at q
      obtain ⟨m, env, h, e, r, k⟩ := q
      exact k m H [] (Grow.refl m H) r .nil
  | cons e es =>
    obtain ⟨s1, s2⟩ := anyStar_cons hs
    refine (pe_makeN M hF hr hg hm hb (passL (E := fun _ _ _ => False) fun _ _ _ h => h) ha hkw k1 k2 hdb (star_no s1) (by rw [tail_stars hs, k3]; rfl)).of fun σ H Q w => ?_
    have q := make_read (X := X) (n := (e :: es).length) (fs := fs) (gs := gs) (gV := gV) (E := fun _ _ _ => False) (np := ps.length) hcl hini hC hfs hrr har w
    rw [hlen] at q
    exact q
/-! ### methods -/
/-- o.m(..): by the object's class -/
def tOm (X : Cx) (m : Str) (n : Nat) (ks : List Str) (CX : CXT) (k : Nat) (E : XK) (to : TE) (t tk : TA) : TE := fun σ H Q => to σ H fun x H1 => ∃ a C dx fs f fd ps g gV sp, x = .ref a ∧ H1 a = some (.ins C dx fs) ∧ Cls X.K C ∧ Meth X.K C m f ∧ fs.lookup m = none ∧
  FnOk X.prog X.w X.K X.mg X.base CX k f fd ps sp ∧ KBn X.K fd ps (n + 1) ks g gV ∧ t σ H1 fun vs H2 => tk σ H2 fun zs H3 => vs.length = n ∧ zs.length = ks.length ∧ sp (gV (x :: vs) zs) H3 Q E
theorem pe_om {CX : CXT} {k : Nat} {E : XK} {o : Expr} {m : Str} {es : List Expr} {kws : List Keyword} {ks : List Str} {to : TE} {t tk : TA} {apos pos : Pos} (hr : Room k X.A) (hx : Passes CX X E) (ho : PE X o to) (hb : baseOk o = true) (hs : anyStar es = false) (ha : PA X es t) (ht : es = [] → ∀ σ H Q, t σ H Q → Q [] H) (hkw : PK X kws tk)
    (hall : (backToKw pos (keywordEach kws X.env)).all (·.1.isSome) = true) (hks : (backToKw pos (keywordEach kws X.env)).filterMap (·.1) = ks) (hno : (backToKw pos (keywordEach kws X.env)).any (·.1.isNone) = false) (hn : es.length + kws.length < 28) (hline : (apos.endLine == pos.line) = true) :
    PE X (.Call (.Attribute o m apos) es kws pos) (tOm X m es.length ks CX k E to t tk) := by
  refine ⟨fun pins s σ H Q I h => ?_⟩
  have hform : methodCallForm (es.length + kws.length) (backTo pos (starEach es X.env)) (backToKw pos (keywordEach kws X.env)) = true := by
    unfold methodCallForm
    have e1 : (backTo pos (starEach es X.env)).all (fun x => !x.1) = true := by
      have := tail_stars hs pos X.env
      rw [List.all_eq_not_any_not]
      simp only [Bool.not_not]
      rw [this]; rfl
    rw [e1, hall]
    simp only [Bool.true_and, decide_eq_true_eq]
    split <;> omega
  have e2 : eval (.Call (.Attribute o m apos) es kws pos) X.env = (do
      let ov ← eval o X.env
      standAt apos.atName
      let (f, first) ← holding [ov] (getMethod ov m (plainOf o X.env))
      callWith pos f first (backTo pos (starEach es X.env)) (backToKw pos (keywordEach kws X.env))) := by
    have e3 : eval (.Call (.Attribute o m apos) es kws pos) X.env = (do
      let ov ← attributeBase o m X.env (eval o X.env)
      standAt apos.atName
      methodCall o m apos pos X.env ov (es.length + kws.length) (backTo pos (starEach es X.env)) (backToKw pos (keywordEach kws X.env))) := rfl
    rw [e3, base_ok hb]
    congr 1
    funext ov
    congr 1
    funext _
    exact mcall_line hform hline
  refine PySem.W.methodCall_KW (pl := plainOf o X.env) (thn (ho.run pins s σ H _ I h) fun u s1 ⟨x, H1, I1, rx, a, C, dx, fs, f, fd, ps, g, gV, sp, ex, ea, c, hm, l, F, hbn, q⟩ => ?_) e2
  subst ex
  obtain rfl : u = Value.ref a := rx
  refine getmeth_ok I1 ea c hm l ?_
  cases es with
  | nil =>
    have q := ht rfl _ _ _ q
    refine PySem.W.callWith_KW0 (first := [.ref a]) (h₀ := X.base) I1.ok.mod.kin hm.kp hall ?_ (by rw [hno]; rfl)
    refine thn (hkw.run pos pins s1 σ H1 _ I1 q) fun ws s2 ⟨zs, H2, I2, rz, l1, l2, q2⟩ => ⟨I2.kIn, ?_⟩
    rw [hks]
    exact run_fnN (us := [.ref a]) (vs := [.ref a]) F hr hbn hx I2 (.cons rfl .nil) rz rfl l2 q2
  | cons e es =>
    obtain ⟨s1', s2'⟩ := anyStar_cons hs
    refine PySem.W.callWith_KW (first := [.ref a]) (h₀ := X.base) I1.ok.mod.kin hm.kp hall (thn (ha.run pos pins s1 σ H1 _ I1 q) fun us s2 ⟨vs, H2, I2, r, q⟩ => ?_) (by rw [tail_stars hs, hno]; rfl) (star_no s1')
    refine thn (hkw.run pos pins s2 σ H2 _ I2 q) fun ws s3 ⟨zs, H3, I3, rz, l1, l2, q2⟩ => ⟨I3.kIn, ?_⟩
    rw [hks]
    exact run_fnN (us := .ref a :: us) (vs := .ref a :: vs) F hr hbn hx I3 (.cons rfl r) rz (by rw [List.length_cons, l1]) l2 q2
/-- what the classes' methods promise: a class's method m (its number i) is a function that keeps its promise -/
def MthOk (X : Cx) (cl : Nat → Addr) (fn : Nm) (F : CallT) (cls : List ClsC) (k : Nat) (i n : Nat) (ks : List Str) (alts : List (Nat × List Ar)) : Prop :=
  i < fn.n ∧ ∀ c cc g ar, clsAt cls c = some cc → natAt i cc.mts = some g → natAt g alts = some ar → ∃ f fd ps, Meth X.K (cl c) (fn.f i) f ∧ FnOk X.prog X.w X.K X.mg X.base (L2.CX X.prog X.w) k f fd ps (spOf X.K cl fn (F g) ps.length) ∧ BnOk X.K fd ps (n + 1) ks ar ∧ ar.length = ps.length
theorem zip_no {fs : List (Nat × PV)} {vs : List V} {x : Str} (h : ∀ q ∈ fs, fn.f q.1 ≠ x) : ((fs.map fun q => fn.f q.1).zip vs).lookup x = none := by
  cases e : ((fs.map fun q => fn.f q.1).zip vs).lookup x with
  | none => rfl
  | some v =>
    have := PySem.mem_of_lookup e
    obtain ⟨h1, _⟩ := List.of_mem_zip this
    obtain ⟨q, hq, eq⟩ := List.mem_map.mp h1
    exact absurd eq (h q hq)
theorem om_read {F : CallT} {k i n : Nat} {ks : List Str} {alts : List (Nat × List Ar)} {f : Ee} {fs gs : List Ee} {E : XK} (hM : MthOk X cl fn F cls k i n ks alts) (hl : fs.length = n) (hk : gs.length = ks.length) {σ : L2.St} {H : Hp} {Q : VK} (w : cE X.K cl fn ⟨eOmth cls F i f (fs ++ gs) alts⟩ σ H Q) :
    tOm X (fn.f i) n ks (L2.CX X.prog X.w) k E (cE X.K cl fn f) (cL X.K cl fn fs) (cL X.K cl fn gs) σ H Q := by
  obtain ⟨m, env, h, e, rr, kk⟩ := w
  have kk : OkE X.K cl fn (match f.run env h with
    | .ok v h1 => match mthOf cls i v h1 with
      | some g => match natAt g alts with
        | some ar => match evL (fs ++ gs) env h1 with
          | .ok vs h2 => match argsOf (v :: vs) ar with
            | some ws => F g ws h2
            | none => .no 138
          | .no n => .no n
        | none => .no 138
      | none => .no 138
    | .no n => .no n) m H Q := kk
  cases z : f.run env h with
  | no n => rw [z] at kk; exact kk.elim
  | ok v h1 =>
    rw [z] at kk
    have kk : OkE X.K cl fn (match mthOf cls i v h1 with
      | some g => match natAt g alts with
        | some ar => match evL (fs ++ gs) env h1 with
          | .ok vs h2 => match argsOf (v :: vs) ar with
            | some ws => F g ws h2
            | none => .no 138
          | .no n => .no n
        | none => .no 138
      | none => .no 138) m H Q := kk
    cases z1 : mthOf cls i v h1 with
    | none => rw [z1] at kk; exact kk.elim
    | some g =>
      rw [z1] at kk
      have kk : OkE X.K cl fn (match natAt g alts with
        | some ar => match evL (fs ++ gs) env h1 with
          | .ok vs h2 => match argsOf (v :: vs) ar with
            | some ws => F g ws h2
            | none => .no 138
          | .no n => .no n
        | none => .no 138) m H Q := kk
      cases z2 : natAt g alts with
      | none => rw [z2] at kk; exact kk.elim
      | some ar =>
        rw [z2] at kk
        have kk : OkE X.K cl fn (match evL (fs ++ gs) env h1 with
          | .ok vs h2 => match argsOf (v :: vs) ar with
            | some ws => F g ws h2
            | none => .no 138
          | .no n => .no n) m H Q := kk
        rw [evL_app] at kk
        refine cE.bind e rr (fun v' h1' z' m1 H1 x g1 r1 e1 q => ?_) (fun n z' => by rw [z] at z'; cases z')
        rw [z] at z'; cases z'
        -- the object
        have hob : ∃ nn c ffs cc, v = .ref nn ∧ h1.get nn = some (.ins c ffs) ∧ clsAt cls c = some cc ∧ natAt i cc.mts = some g := by
          cases v with
          | ref nn =>
            have z1 : (match h1.get nn with
              | some (.ins c _) => match clsAt cls c with
                | some cl => natAt i cl.mts
                | none => none
              | _ => none) = some g := z1
            cases z3 : h1.get nn with
            | none => rw [z3] at z1; cases z1
            | some ob =>
              rw [z3] at z1
              cases ob with
              | ins c ffs =>
                have z1 : (match clsAt cls c with
                  | some cl => natAt i cl.mts
                  | none => none) = some g := z1
                cases z4 : clsAt cls c with
                | none => rw [z4] at z1; cases z1
                | some cc => rw [z4] at z1; exact ⟨nn, c, ffs, cc, rfl, z3, z4, z1⟩
              | _ => cases z1
          | _ => cases z1
        obtain ⟨nn, c, ffs, cc, rfl, z3, z4, z5⟩ := hob
        obtain ⟨a, rfl, ha'⟩ := q.ref_inv
        obtain ⟨dx, vs0, d1, d2, d3, d4⟩ := r1.ins z3 ha'
        obtain ⟨hi, hM⟩ := hM
        obtain ⟨fa, fd, ps, M1, M2, M3, M4⟩ := hM c cc g ar z4 z5 z2
        obtain ⟨g', gV, hbn, hrr⟩ := M3
        refine ⟨a, cl c, dx, _, fa, fd, ps, g', gV, _, rfl, d1, d3, M1, zip_no fun q hq e => ?_, M2, hbn, ?_⟩
        · have n1 : PySem.W.findIn X.K (.ref (cl c)) (fn.f q.1) = some none := (d4 q hq).2
          rw [e, M1.at_] at n1
          cases n1
        · cases z6 : evL fs env h1 with
          | no n => rw [z6] at kk; exact kk.elim
          | ok vs h2 =>
            rw [z6] at kk
            simp only [] at kk
            cases z7 : evL gs env h2 with
            | no n => rw [z7] at kk; exact kk.elim
            | ok ws h3 =>
              rw [z7] at kk
              have kk : OkE X.K cl fn (match argsOf (.ref nn :: (vs ++ ws)) ar with
                | some ws => F g ws h3
                | none => .no 138) m H Q := kk
              cases z8 : argsOf (.ref nn :: (vs ++ ws)) ar with
              | none => rw [z8] at kk; exact kk.elim
              | some us =>
                rw [z8] at kk
                refine cL.bind e1 r1 (fun v' h1' z' m2 H2 xs g2 r2 e2 q2 => ?_) (fun n z' => by rw [z6] at z'; cases z')
                rw [z6] at z'; cases z'
                refine cL.bind e2 r2 (fun v' h2' z2' m3 H3 ys g3 r3 e3 q3 => ?_) (fun n z' => by rw [z7] at z'; cases z')
                rw [z7] at z2'; cases z2'
                have qq := hrr m3 H3 (.ref nn :: (vs ++ ws)) (.ref a :: xs) ys us (.cons (q.grow (g2.trans g3)) ((q2.grow g3).append q3)) z8
                refine ⟨by rw [vrs_len q2, evL_length z6, hl], by rw [vrs_len q3, evL_length z7, hk], ?_, m3, us, h3, qq, r3, OkE.mono ((g1.trans g2).trans g3) kk⟩
                rw [vrs_len qq, ← M4]
                exact call_read.argsOf_len z8
theorem pe_omC {F : CallT} {k i : Nat} {ks : List Str} {alts : List (Nat × List Ar)} {o : Expr} {x : Str} {es : List Expr} {kws : List Keyword} {f : Ee} {fs gs : List Ee} {apos pos : Pos} (hM : MthOk X cl fn F cls k i es.length ks alts) (hx : fn.f i = x) (hr : Room k X.A) (hkn : kwNames kws = some ks) (hb : baseOk o = true) (hs : anyStar es = false) (hn : es.length + kws.length < 28) (hline : (apos.endLine == pos.line) = true)
    (ho : PE X o (cE X.K cl fn f)) (ha : PA X es (cL X.K cl fn fs)) (hfs : fs.length = es.length) (hkw : PK X kws (cL X.K cl fn gs)) (hgs : gs.length = kws.length) : PE X (.Call (.Attribute o x apos) es kws pos) (cE X.K cl fn ⟨eOmth cls F i f (fs ++ gs) alts⟩) := by
  obtain ⟨k1, k2, k3, k4⟩ := kw_names pos X.env hkn
  subst hx
  refine (pe_om hr (passL (E := fun _ _ _ => False) fun _ _ _ h => h) ho hb hs ha (fun e σ H Q w => ?_) hkw k1 k2 k3 hn hline).of fun σ H Q w => om_read hM hfs (by rw [hgs, k4]) w
  subst e
  cases fs with
  | cons _ _ => cases hfs
  | nil =>
    obtain ⟨m, env, h, e, r, k⟩ := w
    exact k m H [] (Grow.refl m H) r .nil
end
end Ev

set_option Elab.async false
set_option linter.all false
set_option maxRecDepth 100000
/-! EvI: isinstance of built-in kinds. -/
namespace Ev
open PySem PySem.Spec PyProof.Rows L2

def tyN : Nat → String
  | 0 => "NoneType"
  | 1 => "bool"
  | 2 => "int"
  | 3 => "str"
  | 4 => "tuple"
  | 5 => "list"
  | _ => "dict"
def kdN : Kd → String
  | .int => "int"
  | .bool => "bool"
  | .str => "str"
  | .tuple => "tuple"
  | .list => "list"
  | .dict => "dict"
theorem kit_kd {K : PySem.W.Frag} : ∀ (n : Nat) (k : Kd), n < 7 → PySem.W.kitOne K (.type (tyN n)) (.type (kdN k)) = some (isKd n k)
  | 0, k, _ => by cases k <;> exact kit_ty (by decide +kernel)
  | 1, k, _ => by cases k <;> exact kit_ty (by decide +kernel)
  | 2, k, _ => by cases k <;> exact kit_ty (by decide +kernel)
  | 3, k, _ => by cases k <;> exact kit_ty (by decide +kernel)
  | 4, k, _ => by cases k <;> exact kit_ty (by decide +kernel)
  | 5, k, _ => by cases k <;> exact kit_ty (by decide +kernel)
  | 6, k, _ => by cases k <;> exact kit_ty (by decide +kernel)
  | n + 7, _, h => by omega
theorem kit_kds {K : PySem.W.Frag} {n : Nat} (hn : n < 7) : ∀ ks : List Kd, PySem.W.kitAny K (.type (tyN n)) (ks.map fun k => Value.type (kdN k)) = some (isKdN n ks)
  | [] => kitAny_nil
  | k :: ks => by
    refine kitAny_cons (b := isKd n k) (kit_kd n k hn) (fun e => ?_) fun e => ?_
    · show _ = some (isKd n k || isKdN n ks)
      rw [e, Bool.false_or]
      exact kit_kds hn ks
    · show (isKd n k || isKdN n ks) = true
      rw [e, Bool.true_or]
section
variable {K : PySem.W.Frag} {cl : Nat → Addr} {fn : Nm} {m : List Addr} {H : Hp} {h : Hh}
theorem kind_ok (r : HR K cl fn m H h) {v : PV} {x : V} {n : Nat} (q : VR K m H v x) (e : kindV v h = some n) : n < 7 ∧ TyX K H x (.type (tyN n)) := by
  cases v with
  | non => cases e; cases q; exact ⟨by decide, .base .non⟩
  | bl b => cases e; cases q; exact ⟨by decide, .base (.bl b)⟩
  | int i => cases e; cases q; exact ⟨by decide, .base (.int i)⟩
  | str s => cases e; cases q; exact ⟨by decide, .base (.str s)⟩
  | tup ps =>
    cases e
    obtain ⟨a, vs, rfl, h1, _⟩ := q.tup_inv
    refine ⟨by decide, ?_⟩
    rcases h1 with (h1 | ⟨o, h1⟩) | ⟨o, its, k, h1, h2, _⟩
    · exact .base (.tup h1)
    · exact .fTuple h1
    · exact .kTuple h1 h2
  | fro ps =>
    cases e
    obtain ⟨a, vs, rfl, h1, _⟩ := q.fro_inv
    refine ⟨by decide, ?_⟩
    rcases h1 with ⟨o, h1⟩ | ⟨o, its, k, h1, h2, _⟩
    · exact .base (.frz h1)
    · exact .kList h1 h2
  | ref k =>
    have e : (match h.get k with
      | some (.lst _) => some 5
      | some (.dct d) => match d.tk with
        | false => some 6
        | true => none
      | some (.dlk d) => match d.tk with
        | false => some 6
        | true => none
      | _ => none) = some n := e
    obtain ⟨a, rfl, ha⟩ := q.ref_inv
    cases z : h.get k with
    | none => rw [z] at e; cases e
    | some ob =>
      rw [z] at e
      cases ob with
      | lst xs =>
        cases e
        obtain ⟨vs, h1, _⟩ := r.lst z ha
        exact ⟨by decide, .base (.lst h1)⟩
      | dct d =>
        have e : (match d.tk with
          | false => some 6
          | true => none) = some n := e
        obtain ⟨b, h1, kvs, u, _, h2, h3⟩ := r.ob k _ z
        rw [ha] at h1
        cases h1
        cases tk : d.tk with
        | true => rw [tk] at e; cases e
        | false =>
          rw [tk] at e h3
          cases e
          obtain ⟨ls, rfl, _⟩ := h3
          exact ⟨by decide, .base (.dK h2)⟩
      | dlk d =>
        have e : (match d.tk with
          | false => some 6
          | true => none) = some n := e
        obtain ⟨b, h1, kvs, o, u, _, h2, h3⟩ := r.ob k _ z
        rw [ha] at h1
        cases h1
        cases tk : d.tk with
        | true => rw [tk] at e; cases e
        | false =>
          rw [tk] at e h3
          cases e
          obtain ⟨ls, rfl, _⟩ := h3
          exact ⟨by decide, .fDict h2⟩
      | ins c fs => cases e
end
section
variable {X : Cx} {cl : Nat → Addr} {fn : Nm} {pos : Pos}
theorem kdOf_ok {x : Str} {k : Kd} (e : kdOf x = some k) : x = Str.ofString (kdN k) ∧ bootBuiltins x = some (.type (kdN k)) ∧ x ≠ "__name__" ∧ (x == ("__debug__" : Str)) = false := by
  have st : ∀ {y : Str}, strEq x y = true → x = y := fun {y} h => by
    rw [strEq_eq] at h
    exact of_decide_eq_true h
  unfold kdOf at e
  cases h1 : strEq x "int" with
  | true => rw [h1] at e; cases e; cases st h1; exact ⟨rfl, by decide +kernel, by decide, by decide⟩
  | false =>
    cases h2 : strEq x "bool" with
    | true => rw [h1, h2] at e; cases e; cases st h2; exact ⟨rfl, by decide +kernel, by decide, by decide⟩
    | false =>
      cases h3 : strEq x "str" with
      | true => rw [h1, h2, h3] at e; cases e; cases st h3; exact ⟨rfl, by decide +kernel, by decide, by decide⟩
      | false =>
        cases h4 : strEq x "tuple" with
        | true => rw [h1, h2, h3, h4] at e; cases e; cases st h4; exact ⟨rfl, by decide +kernel, by decide, by decide⟩
        | false =>
          cases h5 : strEq x "list" with
          | true => rw [h1, h2, h3, h4, h5] at e; cases e; cases st h5; exact ⟨rfl, by decide +kernel, by decide, by decide⟩
          | false =>
            cases h6 : strEq x "dict" with
            | true => rw [h1, h2, h3, h4, h5, h6] at e; cases e; cases st h6; exact ⟨rfl, by decide +kernel, by decide, by decide⟩
            | false => rw [h1, h2, h3, h4, h5, h6] at e; cases e
/-- a built-in kind by its name -/
def KdAt (X : Cx) (k : Kd) (e : Expr) : Prop := ∃ x p, e = .Name x p ∧ kdOf x = some k ∧ Gl X x ∧ X.mg x = none
theorem pe_kd {k : Kd} {e : Expr} (h : KdAt X k e) : PE X e (tC (.ty (kdN k))) := by
  obtain ⟨x, p, rfl, h1, h2, h3⟩ := h
  obtain ⟨_, h4, h5, h6⟩ := kdOf_ok h1
  exact pe_bltn h2 h3 h4 rfl h5 h6
theorem isi_one {ks : List Kd} {f : Ee} {σ : L2.St} {H : Hp} {Q : VK} (w : cE X.K cl fn ⟨e1 (isiV ks) f⟩ σ H Q) : cE X.K cl fn f σ H fun x H1 => ∃ n, n < 7 ∧ TyX X.K H1 x (.type (tyN n)) ∧ Q (.bl (isKdN n ks)) H1 ∧ ∀ p xs, H1 p = none → Q (.bl (isKdN n ks)) (upd H1 p (.tup xs)) := by
  refine one (r1 := fun x H1 Q => ∃ n, n < 7 ∧ TyX X.K H1 x (.type (tyN n)) ∧ Q (.bl (isKdN n ks)) H1 ∧ ∀ p xs, H1 p = none → Q (.bl (isKdN n ks)) (upd H1 p (.tup xs))) (fun m H h p x Q r q k => ?_) w
  have k : OkE X.K cl fn (match (match kindV p h with
    | some n => some (isKdN n ks)
    | none => none) with
    | some b => .ok (.bl b) h
    | none => .no 140) m H Q := k
  cases z : kindV p h with
  | none => rw [z] at k; exact k.elim
  | some n =>
    rw [z] at k
    have k : OkE X.K cl fn (.ok (.bl (isKdN n ks)) h) m H Q := k
    obtain ⟨h1, h2⟩ := kind_ok r q z
    exact ⟨n, h1, h2, k.give r (.bl _), fun p xs hp => k _ _ _ (Grow.upd_new0 hp) (r.tup hp) (.bl _)⟩
theorem tyx_new {K : PySem.W.Frag} {H : Hp} {x : V} {n : Nat} {p : Addr} {xs : List V} (hp : H p = none) (t : TyX K H x (.type (tyN n))) : TyX K (upd H p (.tup xs)) x (.type (tyN n)) := by
  have up : ∀ {a : Addr} {o : HO}, H a = some o → (upd H p (.tup xs)) a = some o := fun {a o} h => by rw [upd_ne (ne_of_none h hp)]; exact h
  generalize ht : Value.type (tyN n) = t' at t ⊢
  cases t with
  | base b =>
    cases b with
    | non => exact .base .non
    | bl y => exact .base (.bl y)
    | int i => exact .base (.int i)
    | str y => exact .base (.str y)
    | flt y => exact .base (.flt y)
    | lst e => exact .base (.lst (up e))
    | frz e => exact .base (.frz (up e))
    | tup e => exact .base (.tup (up e))
    | dK e => exact .base (.dK (up e))
    | dT e => exact .base (.dT (up e))
    | ins e cl ha hn htk hm => cases ht
  | byt b => exact .byt b
  | set e => exact .set (up e)
  | kList e c => exact .kList e c
  | kTuple e c => exact .kTuple e c
  | kDict e c => exact .kDict e c
  | fTuple e => exact .fTuple (up e)
  | fDict e => exact .fDict (up e)
/-- isinstance(a, T) -/
theorem pe_isi1C {p : Pos} {a T : Expr} {f : Ee} {k : Kd} (hg : Gl X "isinstance") (hm : X.mg "isinstance" = none) (hs : isStar a = false) (ha : PE X a (cE X.K cl fn f)) (hT : KdAt X k T) : PE X (.Call (.Name "isinstance" p) [a, T] [] pos) (cE X.K cl fn ⟨e1 (isiV [k]) f⟩) := by
  have sT : isStar T = false := by obtain ⟨x, q, rfl, _⟩ := hT; rfl
  refine (pe_callB call_isi hg hm (by decide +kernel) (pa_cons ha (pa_cons (pe_kd hT) pa_nil (star_no sT)) (star_no hs)) (he := star_no hs) (hpl := by rw [back_any, stars_no _ (by show (match isStar T with | true => true | false => anyStar []) = false; rw [sT]; rfl)])).of fun σ H Q w => ?_
  obtain ⟨m, env, h, e, r, kk⟩ := isi_one w
  refine ⟨m, env, h, e, r, ?_⟩
  cases z : f.run env h with
  | no n => rw [z] at kk; exact kk
  | ok v h1 =>
    rw [z] at kk
    intro m1 H1 x g1 r1 q
    obtain ⟨n, n1, n2, n3, _⟩ := kk m1 H1 x g1 r1 q
    have hk := kit_kd (K := X.K) n k n1
    refine ⟨x, .ty (kdN k), _, _, isKd n k, rfl, .ty _, n2, hk, ?_⟩
    have : isKdN n [k] = isKd n k := by show (isKd n k || false) = _; rw [Bool.or_false]
    rw [this] at n3
    exact n3
def tTys (ks : List Kd) : TA := fun _ H Q => Q (ks.map fun k => V.ty (kdN k)) H
theorem pa_kds : ∀ {ks : List Kd} {es : List Expr}, Paired (KdAt X) ks es → PA X es (tTys ks) ∧ anyStar es = false
  | _, _, .nil => ⟨⟨fun pos pins s σ H Q I h => pa_nil.run pos pins s σ H Q I h⟩, rfl⟩
  | _, _, .cons (a := k) (b := e) hk t => by
    obtain ⟨h1, h2⟩ := pa_kds t
    have sT : isStar e = false := by obtain ⟨x, q, rfl, _⟩ := hk; rfl
    refine ⟨⟨fun pos pins s σ H Q I h => (pa_cons (pe_kd hk) h1 (star_no sT)).run pos pins s σ H Q I h⟩, ?_⟩
    show (match isStar e with
      | true => true
      | false => anyStar _) = false
    rw [sT]; exact h2
theorem cls_kds : ∀ ks : List Kd, Paired ClsV (ks.map fun k => V.ty (kdN k)) (ks.map fun k => Value.type (kdN k))
  | [] => .nil
  | k :: ks => .cons (.ty _) (cls_kds ks)
/-- isinstance(a, (T1, T2, ..)) -/
theorem pe_isiTC {p tp : Pos} {c : Nat} {a : Expr} {es : List Expr} {f : Ee} {ks : List Kd} (hg : Gl X "isinstance") (hm : X.mg "isinstance" = none) (hs : isStar a = false) (ha : PE X a (cE X.K cl fn f)) (hT : Paired (KdAt X) ks es) (hl : ks.length ≤ 1000) : PE X (.Call (.Name "isinstance" p) [a, .Tuple es c tp] [] pos) (cE X.K cl fn ⟨e1 (isiV ks) f⟩) := by
  obtain ⟨h1, h2⟩ := pa_kds hT
  refine (pe_callB call_isiT hg hm (by decide +kernel) (pa_cons ha (pa_cons (pe_tup h1) pa_nil (star_no rfl)) (star_no hs)) (he := star_no hs) (hpl := rfl)).of fun σ H Q w => ?_
  obtain ⟨m, env, h, e, r, kk⟩ := isi_one w
  refine ⟨m, env, h, e, r, ?_⟩
  cases z : f.run env h with
  | no n => rw [z] at kk; exact kk
  | ok v h1 =>
    rw [z] at kk
    intro m1 H1 x g1 r1 q
    obtain ⟨n, n1, n2, _, n3⟩ := kk m1 H1 x g1 r1 q
    refine ⟨by rw [List.length_map, sizeLine_eq]; omega, fun tp hp => ?_⟩
    exact ⟨x, tp, _, _, _, isKdN n ks, rfl, upd_same, cls_kds ks, tyx_new hp n2, kit_kds n1 ks, n3 tp _ hp⟩
end
end Ev

set_option Elab.async false
set_option linter.all false
set_option maxRecDepth 100000
/-! Ev19: what the compiler makes of expressions keeps its promise. -/
namespace Ev
open PySem PySem.Spec PyProof.Rows L2

/-- what is known of the module's names, classes, attributes -/
structure Mdl (G : GI) (cl : Nat → Addr) (fn : Nm) (cls : List ClsC) (fa : Nat → Addr) (K : PySem.W.Frag) (mg : Str → Option Value) : Prop where
  con : ∀ x p, lookS x G.cons = some p → ConOk K mg x p ∧ (x == ("__debug__" : Str)) = false
  blt : ∀ x, (G.blts.any fun y => strEq y x) = true → mg x = none
  fld : ∀ i x, G.flds[i]? = some x → i < fn.n ∧ fn.f i = x
  clsE : cls = G.cls.map (·.2)
  clsA : ∀ c q, G.cls[c]? = some q → Cls K (cl c) ∧ mg q.1 = some (.ref (cl c)) ∧ (q.1 == ("__debug__" : Str)) = false ∧ ∀ g, q.2.init = some g → Mk K (cl c) (fa g)
  mth : ∀ c q i g, G.cls[c]? = some q → natAt i q.2.mts = some g → i < fn.n ∧ Meth K (cl c) (fn.f i) (fa g)
  oks : OkFs K cl fn cls
/-- what is known of the module -/
structure Fcts (G : GI) (cl : Nat → Addr) (fn : Nm) (cls : List ClsC) (fa : Nat → Addr) (F : CallT) (P : Program) (w : World) (K : PySem.W.Frag) (mg : Str → Option Value) (base : Heap) (k : Nat) : Prop where
  md : Mdl G cl fn cls fa K mg
  wE : fn.w = w
  fns : ∀ g fi, G.fns[g]? = some fi → ∃ fd, FnOk P w K mg base (L2.CX P w) k (fa g) fd fi.ps (spOf K cl fn (F g) fi.ps.length) ∧ (PySem.W.keepIn K (.ref (fa g)) = true ∧ ∃ oc od osl, K.lookup (fa g) = some ⟨oc, od, .func fd, osl⟩) ∧
    (fi.at_.2 = none → mg fi.at_.1 = some (.ref (fa g)) ∧ (fi.at_.1 == ("__debug__" : Str)) = false) ∧
    ∀ n ks ar, cmbIn G g n ks = true → arOf fi.dfl n ks 0 fi.ps = some ar → BnOk K fd fi.ps n ks ar
structure Gd (G : GI) (N : List Str) (cl : Nat → Addr) (fn : Nm) (cls : List ClsC) (fa : Nat → Addr) (F : CallT) (k : Nat) (X : Cx) (sc : Scope) : Prop where
  fc : Fcts G cl fn cls fa F X.prog X.w X.K X.mg X.base k
  scE : X.env.scope = sc
  kind : sc.kind = .function
  nE : X.N = N
  nd : N.Nodup
  calm : X.calm = true
  room : Room (k + 1) X.A
section
variable {G : GI} {N : List Str} {cl : Nat → Addr} {fn : Nm} {fa : Nat → Addr} {F : CallT} {cls : List ClsC} {k : Nat} {X : Cx} {sc : Scope}
def OkX (cl : Nat → Addr) (fn : Nm) (cls : List ClsC) (F : CallT) (X : Cx) (e : Expr) (c : C) : Prop := ∀ j, PE X e (cE X.K cl fn ((kn cls F j).e c)) ∧ PT X e (cT X.K cl fn ((kn cls F j).t c))
theorem okx_of {e : Expr} {c : C} (h : ∀ j, PE X e (cE X.K cl fn (denE cls F (kn cls F j) c)) ∧ PT X e (cT X.K cl fn (denT cls F (kn cls F j) c))) : OkX cl fn cls F X e c := fun j => match j with
  | 0 => ⟨pe_neverC, pt_neverC⟩
  | j + 1 => h j
theorem okx_plain {e : Expr} {c : C} (hp : plainTest e = true) (ht : ∀ j, denT cls F (kn cls F j) c = ⟨tVal (denE cls F (kn cls F j) c)⟩) (h : ∀ j, PE X e (cE X.K cl fn (denE cls F (kn cls F j) c))) : OkX cl fn cls F X e c :=
  okx_of fun j => ⟨h j, by rw [ht j]; exact pt_truthC hp (h j)⟩
theorem okx_never {e : Expr} {n : Nat} : OkX cl fn cls F X e (.never n) := okx_of fun j => ⟨pe_neverC, pt_neverC (n := 1000 + n)⟩
/-! ### rows of expressions -/
theorem pa_mapC {f : Expr → C} {j : Nat} : ∀ {es : List Expr}, anyStar es = false → (∀ e ∈ es, OkX cl fn cls F X e (f e)) → PA X es (cL X.K cl fn ((es.map f).map (kn cls F j).e))
  | [], _, _ => pa_nilC
  | e :: es, h, ih => by
    obtain ⟨s1, s2⟩ := anyStar_cons h
    exact pa_consC s1 (ih e (List.mem_cons_self ..) j).1 (pa_mapC s2 fun e' he => ih e' (List.mem_cons_of_mem _ he))
theorem pk_mapC {f : Expr → C} {j : Nat} : ∀ {kws : List Keyword}, (∀ q ∈ kws, OkX cl fn cls F X q.value (f q.value)) → PK X kws (cL X.K cl fn ((kws.map fun q => f q.value).map (kn cls F j).e))
  | [], _ => pk_nilC
  | ⟨nm, e, p⟩ :: kws, ih => pk_consC (ih ⟨nm, e, p⟩ (List.mem_cons_self ..) j).1 (pk_mapC fun q hq => ih q (List.mem_cons_of_mem _ hq))
/-! ### and, or -/
theorem and_okx {f : Expr → C} {p : Pos} : ∀ {es : List Expr}, (∀ e ∈ es, OkX cl fn cls F X e (f e)) → ∀ j, PE X (.BoolOp .And es p) (cE X.K cl fn ((kn cls F j).e (foldAnd (es.map f)))) ∧ PW X (.BoolOp .And es p) (cT X.K cl fn ((kn cls F j).t (foldAnd (es.map f))))
  | [], _, j => by
    have h : OkX cl fn cls F X (.BoolOp .And [] p) (.never 1) := okx_never
    refine ⟨(h j).1, ?_⟩
    cases j with
    | zero => exact ⟨fun wh pins s σ H Q I ⟨m, env, h, e, r, k⟩ => (show False from k).elim⟩
    | succ j => exact ⟨fun wh pins s σ H Q I ⟨m, env, h, e, r, k⟩ => (show False from k).elim⟩
  | [a], ih, j => ⟨pe_one (ih a (List.mem_cons_self ..) j).1, pw_and1 (ih a (List.mem_cons_self ..) j).2⟩
  | a :: b :: r, ih, j => by
    have hr := and_okx (p := p) (es := b :: r) fun e he => ih e (List.mem_cons_of_mem _ he)
    have ha := ih a (List.mem_cons_self ..)
    show PE X (.BoolOp .And (a :: b :: r) p) (cE X.K cl fn ((kn cls F j).e (.and (f a) (foldAnd ((b :: r).map f))))) ∧ _
    cases j with
    | zero => exact ⟨pe_neverC, ⟨fun wh pins s σ H Q I ⟨m, env, h, e, r, k⟩ => (show False from k).elim⟩⟩
    | succ j => exact ⟨pe_andC (ha j).1 (hr j).1, pw_andC (ha j).2 (hr j).2⟩
theorem or_okx {f : Expr → C} {p : Pos} : ∀ {es : List Expr}, (∀ e ∈ es, OkX cl fn cls F X e (f e)) → ∀ j, PE X (.BoolOp .Or es p) (cE X.K cl fn ((kn cls F j).e (foldOr (es.map f)))) ∧ PW X (.BoolOp .Or es p) (cT X.K cl fn ((kn cls F j).t (foldOr (es.map f))))
  | [], _, j => by
    have h : OkX cl fn cls F X (.BoolOp .Or [] p) (.never 1) := okx_never
    refine ⟨(h j).1, ?_⟩
    cases j with
    | zero => exact ⟨fun wh pins s σ H Q I ⟨m, env, h, e, r, k⟩ => (show False from k).elim⟩
    | succ j => exact ⟨fun wh pins s σ H Q I ⟨m, env, h, e, r, k⟩ => (show False from k).elim⟩
  | [a], ih, j => ⟨pe_one (ih a (List.mem_cons_self ..) j).1, pw_or1 (ih a (List.mem_cons_self ..) j).2⟩
  | a :: b :: r, ih, j => by
    have hr := or_okx (p := p) (es := b :: r) fun e he => ih e (List.mem_cons_of_mem _ he)
    have ha := ih a (List.mem_cons_self ..)
    show PE X (.BoolOp .Or (a :: b :: r) p) (cE X.K cl fn ((kn cls F j).e (.or (f a) (foldOr ((b :: r).map f))))) ∧ _
    cases j with
    | zero => exact ⟨pe_neverC, ⟨fun wh pins s σ H Q I ⟨m, env, h, e, r, k⟩ => (show False from k).elim⟩⟩
    | succ j => exact ⟨pe_orC (ha j).1 (hr j).1, pw_orC (ha j).2 (hr j).2⟩
/-! ### names -/
theorem slotR_ok {N : List Str} {sc : Scope} {x : Str} {i : Nat} (e : slotR N sc x = some i) : N[i]? = some x ∧ Vis sc x ∧ (x == ("__debug__" : Str)) = false ∧ (x == ("__classdict__" : Str)) = false := by
  unfold slotR at e
  cases h : strEq x "__debug__" || strEq x "__classdict__" with
  | true => rw [h] at e; cases e
  | false =>
    rw [h] at e
    obtain ⟨h1, h2⟩ := Bool.or_eq_false_iff.mp h
    rw [strEq_eq] at h1 h2
    have d1 : (x == ("__debug__" : Str)) = false := by rw [str_beq]; exact h1
    have d2 : (x == ("__classdict__" : Str)) = false := by rw [str_beq]; exact h2
    have e : (match kindIn sc x with
      | some .local => nameIx N x
      | some .cell => nameIx N x
      | some .free => nameIx N x
      | _ => none) = some i := e
    cases hk : kindIn sc x with
    | none => rw [hk] at e; cases e
    | some q =>
      rw [hk] at e
      cases q with
      | «local» => exact ⟨nameIx_ok e, .inl hk, d1, d2⟩
      | cell => exact ⟨nameIx_ok e, .inr (.inl hk), d1, d2⟩
      | free => exact ⟨nameIx_ok e, .inr (.inr hk), d1, d2⟩
      | _ => cases e
theorem slotW_ok {N : List Str} {sc : Scope} {x : Str} {i : Nat} (e : slotW N sc x = some i) : N[i]? = some x ∧ Loc sc x := by
  have e : (match kindIn sc x with
    | some .local => nameIx N x
    | some .cell => nameIx N x
    | _ => none) = some i := e
  cases hk : kindIn sc x with
  | none => rw [hk] at e; cases e
  | some q =>
    rw [hk] at e
    cases q with
    | «local» => exact ⟨nameIx_ok e, .inl hk⟩
    | cell => exact ⟨nameIx_ok e, .inr hk⟩
    | _ => cases e
theorem isGl_ok {x : Str} (h : isGl X.env.scope x = true) : Gl X x := by
  have h : (match kindIn X.env.scope x with
    | some .globalImplicit => true
    | _ => false) = true := h
  show kindIn X.env.scope x = _
  cases hk : kindIn X.env.scope x with
  | none => rw [hk] at h; cases h
  | some q =>
    rw [hk] at h
    cases q with
    | globalImplicit => rfl
    | _ => cases h
theorem name_okx (g : Gd G N cl fn cls fa F k X sc) {x : Str} {p : Pos} : OkX cl fn cls F X (.Name x p) (compName G N sc x) := by
  unfold compName
  cases h : slotR N sc x with
  | some i =>
    obtain ⟨h1, h2, h3, h4⟩ := slotR_ok h
    exact okx_plain rfl (fun j => rfl) fun j => pe_varC (by rw [g.nE]; exact h1) (by rw [g.scE]; exact h2) h3 h4
  | none =>
    show OkX cl fn cls F X _ (match isGl sc x with
      | true => match lookS x G.cons with
        | some v => .lit v
        | none => .never 42
      | false => .never 43)
    cases h2 : isGl sc x with
    | false => exact okx_never
    | true =>
      show OkX cl fn cls F X _ (match lookS x G.cons with
        | some v => .lit v
        | none => .never 42)
      cases h3 : lookS x G.cons with
      | none => exact okx_never
      | some v =>
        obtain ⟨c1, c2⟩ := g.fc.md.con x v h3
        exact okx_plain rfl (fun j => rfl) fun j => pe_conC c1 (isGl_ok (by rw [g.scE]; exact h2)) c2
theorem lit_okx {c : Const} {i : Nat} {p : Pos} : OkX cl fn cls F X (.Constant c i p) (litOf c) := by
  cases c with
  | none => exact okx_plain rfl (fun j => rfl) fun j => pe_litC pe_non fun m H => .non
  | bool b => exact okx_plain rfl (fun j => rfl) fun j => pe_litC pe_bl fun m H => .bl b
  | int i => exact okx_plain rfl (fun j => rfl) fun j => pe_litC pe_int fun m H => .int i
  | str x => exact okx_plain rfl (fun j => rfl) fun j => pe_litC pe_str fun m H => .str x
  | _ => exact okx_never
/-! ### subscripts -/
theorem isM1_ok {e : Expr} (h : isM1 e = true) : ∃ k p1 p2, e = .UnaryOp .USub (.Constant (.int 1) k p1) p2 := by
  cases e with
  | UnaryOp op a p =>
    cases op with
    | USub =>
      cases a with
      | Constant c k p1 =>
        cases c with
        | int i =>
          have h : intEq i 1 = true := h
          rw [intEq_eq] at h
          rw [of_decide_eq_true h]
          exact ⟨k, p1, p, rfl⟩
        | _ => cases h
      | _ => cases h
    | _ => cases h
  | _ => cases h
inductive SlKOk (i : Expr) : SlK → Prop
  | ix (h : isSlice i = false) : SlKOk i .ix
  | rv (k : Nat) (p1 p2 p3 : Pos) (h : i = .Slice none none (some (.UnaryOp .USub (.Constant (.int 1) k p1) p2)) p3) : SlKOk i .rv
  | sl (lo hi : Option Expr) (p : Pos) (h : i = .Slice lo hi none p) : SlKOk i (.sl lo hi)
  | no : SlKOk i .no
theorem slK_ok (i : Expr) : SlKOk i (slK i) := by
  cases i with
  | Slice lo hi st p =>
    cases st with
    | none => exact .sl lo hi p rfl
    | some e =>
      show SlKOk _ (match isM1 e, lo, hi with
        | true, none, none => .rv
        | _, _, _ => .no)
      cases h : isM1 e with
      | false => exact .no
      | true =>
        obtain ⟨k, p1, p2, rfl⟩ := isM1_ok h
        cases lo <;> cases hi <;> first | exact .rv k p1 p2 p rfl | exact .no
  | Starred a p => exact .no
  | _ => exact .ix rfl
theorem po_optC {f : Expr → C} {j : Nat} {o : Option Expr} (h : ∀ e, o = some e → OkX cl fn cls F X e (f e)) : PO X o (cO X.K cl fn (denO (kn cls F j).e (optC f o))) := by
  cases o with
  | none => exact po_noneC
  | some e => exact po_someC (h e rfl j).1
/-! ### calls -/
theorem strEq_of {x y : Str} (h : strEq x y = true) : x = y := by
  rw [strEq_eq] at h
  exact of_decide_eq_true h
theorem strsEq_of : ∀ {xs ys : List Str}, strsEq xs ys = true → xs = ys
  | [], [], _ => rfl
  | [], _ :: _, h => by cases h
  | _ :: _, [], h => by cases h
  | x :: xs, y :: ys, h => by
    obtain ⟨h1, h2⟩ := Bool.and_eq_true_iff.mp (show (strEq x y && strsEq xs ys) = true from h)
    rw [strEq_of h1, strsEq_of h2]
theorem arOf_len {dfl : List (Str × PV)} {p : Nat} {ks : List Str} : ∀ {ps : List Str} {j : Nat} {ar : List Ar}, arOf dfl p ks j ps = some ar → ar.length = ps.length
  | [], _, _, e => by cases e; rfl
  | x :: r, j, ar, e => by
    have e : (match arOf dfl p ks (j + 1) r with
      | none => none
      | some ar => match Nat.blt j p with
        | true => some (.a j :: ar)
        | false => match nameIx ks x with
          | some q => some (.a (p + q) :: ar)
          | none => match lookS x dfl with
            | some v => some (.d v :: ar)
            | none => none) = some ar := e
    cases z : arOf dfl p ks (j + 1) r with
    | none => rw [z] at e; cases e
    | some as =>
      rw [z] at e
      have ih := arOf_len z
      have e : (match Nat.blt j p with
        | true => some (.a j :: as)
        | false => match nameIx ks x with
          | some q => some (.a (p + q) :: as)
          | none => match lookS x dfl with
            | some v => some (.d v :: as)
            | none => none) = some ar := e
      cases h1 : Nat.blt j p with
      | true => rw [h1] at e; cases e; rw [List.length_cons, List.length_cons, ih]
      | false =>
        rw [h1] at e
        have e : (match nameIx ks x with
          | some q => some (.a (p + q) :: as)
          | none => match lookS x dfl with
            | some v => some (.d v :: as)
            | none => none) = some ar := e
        cases h2 : nameIx ks x with
        | some q => rw [h2] at e; cases e; rw [List.length_cons, List.length_cons, ih]
        | none =>
          rw [h2] at e
          have e : (match lookS x dfl with
            | some v => some (.d v :: as)
            | none => none) = some ar := e
          cases h3 : lookS x dfl with
          | none => rw [h3] at e; cases e
          | some v => rw [h3] at e; cases e; rw [List.length_cons, List.length_cons, ih]
theorem clsAt_map : ∀ {l : List (Str × ClsC)} {c : Nat} {cc : ClsC}, clsAt (l.map (·.2)) c = some cc → ∃ q, l[c]? = some q ∧ q.2 = cc
  | [], _, _, h => by cases h
  | q :: r, 0, cc, h => by cases h; exact ⟨q, rfl, rfl⟩
  | q :: r, c + 1, cc, h => clsAt_map (l := r) h
theorem clsAt_of : ∀ {l : List (Str × ClsC)} {c : Nat} {q : Str × ClsC}, l[c]? = some q → clsAt (l.map (·.2)) c = some q.2
  | [], _, _, h => by simp at h
  | q :: r, 0, _, h => by simp at h; subst h; rfl
  | q :: r, c + 1, _, h => clsAt_of (l := r) (by simpa using h)
theorem callMk_okx (g : Gd G N cl fn cls fa F k X sc) {f : Expr → C} {x : Str} {p pos : Pos} {args : List Expr} {kws : List Keyword} {ks : List Str} (hs : anyStar args = false) (hg : isGl sc x = true) (hk : kwNames kws = some ks) (ih : ∀ e, OkX cl fn cls F X e (f e)) :
    OkX cl fn cls F X (.Call (.Name x p) args kws pos) (callMk G f x args kws ks) := by
  unfold callMk
  cases h1 : findIx (fun q => strEq q.1 x) G.cls with
  | none => exact okx_never
  | some c =>
    obtain ⟨q, h2, h3⟩ := findIx_ok h1
    obtain rfl := strEq_of h3
    obtain ⟨m1, m2, m3, m4⟩ := g.fc.md.clsA c q h2
    show OkX cl fn cls F X _ (match G.cls[c]? with
      | none => .never 12
      | some q => match q.2.init with
        | none => .never 14
        | some g => match G.fns[g]? with
          | none => .never 14
          | some fi => match cmbIn G g (args.length + 1) ks with
            | false => .never 15
            | true => match arOf fi.dfl (args.length + 1) ks 0 fi.ps with
              | none => .never 13
              | some ar => .make c (args.map f ++ kws.map fun q => f q.value) ar)
    rw [h2]
    show OkX cl fn cls F X _ (match q.2.init with
        | none => .never 14
        | some g => match G.fns[g]? with
          | none => .never 14
          | some fi => match cmbIn G g (args.length + 1) ks with
            | false => .never 15
            | true => match arOf fi.dfl (args.length + 1) ks 0 fi.ps with
              | none => .never 13
              | some ar => .make c (args.map f ++ kws.map fun q => f q.value) ar)
    cases h4 : q.2.init with
    | none => exact okx_never
    | some gi =>
      show OkX cl fn cls F X _ (match G.fns[gi]? with
          | none => .never 14
          | some fi => match cmbIn G gi (args.length + 1) ks with
            | false => .never 15
            | true => match arOf fi.dfl (args.length + 1) ks 0 fi.ps with
              | none => .never 13
              | some ar => .make c (args.map f ++ kws.map fun q => f q.value) ar)
      cases h5 : G.fns[gi]? with
      | none => exact okx_never
      | some fi =>
        obtain ⟨fd, q1, q2, q3, q4⟩ := g.fc.fns gi fi h5
        show OkX cl fn cls F X _ (match cmbIn G gi (args.length + 1) ks with
            | false => .never 15
            | true => match arOf fi.dfl (args.length + 1) ks 0 fi.ps with
              | none => .never 13
              | some ar => .make c (args.map f ++ kws.map fun q => f q.value) ar)
        cases h6 : cmbIn G gi (args.length + 1) ks with
        | false => exact okx_never
        | true =>
          show OkX cl fn cls F X _ (match arOf fi.dfl (args.length + 1) ks 0 fi.ps with
              | none => .never 13
              | some ar => .make c (args.map f ++ kws.map fun q => f q.value) ar)
          cases h7 : arOf fi.dfl (args.length + 1) ks 0 fi.ps with
          | none => exact okx_never
          | some ar =>
            refine okx_plain rfl (fun j => rfl) fun j => ?_
            have e : (denE cls F (kn cls F j) (.make c (args.map f ++ kws.map fun q => f q.value) ar)) = ⟨eMake cls F c ((args.map f).map (kn cls F j).e ++ (kws.map fun q => f q.value).map (kn cls F j).e) ar⟩ := by
              show (⟨eMake cls F c ((args.map f ++ kws.map fun q => f q.value).map (kn cls F j).e) ar⟩ : Ee) = _
              rw [List.map_append]
            rw [e]
            exact pe_makeC (by rw [g.fc.md.clsE]; exact clsAt_of h2) h4 m1 (m4 gi h4) q1 g.room (isGl_ok (by rw [g.scE]; exact hg)) m2 (q4 _ _ _ h6 h7) (arOf_len h7) hk hs (pa_mapC hs fun e _ => ih e) (by simp) (pk_mapC fun q _ => ih q.value) (by simp) m3
theorem callFn_okx (g : Gd G N cl fn cls fa F k X sc) {f : Expr → C} {x : Str} {p pos : Pos} {args : List Expr} {kws : List Keyword} {ks : List Str} (hs : anyStar args = false) (hg : isGl sc x = true) (hk : kwNames kws = some ks) (ih : ∀ e, OkX cl fn cls F X e (f e)) :
    OkX cl fn cls F X (.Call (.Name x p) args kws pos) (callFn G f x args kws ks) := by
  unfold callFn
  cases h1 : findIx (fun fi => strEq fi.at_.1 x && fi.at_.2.isNone) G.fns with
  | none => exact callMk_okx g hs hg hk ih
  | some gi =>
    obtain ⟨fi, h2, h3⟩ := findIx_ok h1
    show OkX cl fn cls F X _ (match G.fns[gi]? with
      | none => .never 12
      | some fi => match cmbIn G gi args.length ks with
        | false => .never 11
        | true => match arOf fi.dfl args.length ks 0 fi.ps with
          | none => .never 13
          | some ar => match G.pur.any fun p => Nat.beq p gi with
            | true => .callP gi (args.map f ++ kws.map fun q => f q.value) ar
            | false => .call gi (args.map f ++ kws.map fun q => f q.value) ar)
    rw [h2]
    obtain ⟨h4, h5⟩ := Bool.and_eq_true_iff.mp h3
    obtain rfl := strEq_of h4
    obtain ⟨fd, q1, q2, q3, q4⟩ := g.fc.fns gi fi h2
    obtain ⟨m1, m2⟩ := q3 (Option.isNone_iff_eq_none.mp h5)
    show OkX cl fn cls F X _ (match cmbIn G gi args.length ks with
      | false => .never 11
      | true => match arOf fi.dfl args.length ks 0 fi.ps with
        | none => .never 13
        | some ar => match G.pur.any fun p => Nat.beq p gi with
            | true => .callP gi (args.map f ++ kws.map fun q => f q.value) ar
            | false => .call gi (args.map f ++ kws.map fun q => f q.value) ar)
    cases h6 : cmbIn G gi args.length ks with
    | false => exact okx_never
    | true =>
      show OkX cl fn cls F X _ (match arOf fi.dfl args.length ks 0 fi.ps with
        | none => .never 13
        | some ar => match G.pur.any fun p => Nat.beq p gi with
          | true => .callP gi (args.map f ++ kws.map fun q => f q.value) ar
          | false => .call gi (args.map f ++ kws.map fun q => f q.value) ar)
      cases h7 : arOf fi.dfl args.length ks 0 fi.ps with
      | none => exact okx_never
      | some ar =>
        show OkX cl fn cls F X _ (match G.pur.any fun p => Nat.beq p gi with
          | true => .callP gi (args.map f ++ kws.map fun q => f q.value) ar
          | false => .call gi (args.map f ++ kws.map fun q => f q.value) ar)
        cases hpu : G.pur.any fun p => Nat.beq p gi with
        | false =>
          refine okx_plain rfl (fun j => rfl) fun j => ?_
          have e : (denE cls F (kn cls F j) (.call gi (args.map f ++ kws.map fun q => f q.value) ar)) = ⟨eCall (F gi) ((args.map f).map (kn cls F j).e ++ (kws.map fun q => f q.value).map (kn cls F j).e) ar⟩ := by
            show (⟨eCall (F gi) ((args.map f ++ kws.map fun q => f q.value).map (kn cls F j).e) ar⟩ : Ee) = _
            rw [List.map_append]
          rw [e]
          exact pe_callC q1 (g.room.mono (Nat.le_succ k)) (isGl_ok (by rw [g.scE]; exact hg)) m1 q2.1 (q4 _ _ _ h6 h7) (arOf_len h7) hk hs (pa_mapC hs fun e _ => ih e) (by simp) (pk_mapC fun q _ => ih q.value) (by simp) m2
        | true =>
          refine okx_plain rfl (fun j => rfl) fun j => ?_
          have e : (denE cls F (kn cls F j) (.callP gi (args.map f ++ kws.map fun q => f q.value) ar)) = ⟨eCall (pureF (F gi)) ((args.map f).map (kn cls F j).e ++ (kws.map fun q => f q.value).map (kn cls F j).e) ar⟩ := by
            show (⟨eCall (pureF (F gi)) ((args.map f ++ kws.map fun q => f q.value).map (kn cls F j).e) ar⟩ : Ee) = _
            rw [List.map_append]
          rw [e]
          exact pe_callC (q1.imp sp_pure) (g.room.mono (Nat.le_succ k)) (isGl_ok (by rw [g.scE]; exact hg)) m1 q2.1 (q4 _ _ _ h6 h7) (arOf_len h7) hk hs (pa_mapC hs fun e _ => ih e) (by simp) (pk_mapC fun q _ => ih q.value) (by simp) m2
theorem lookS_mem {α : Type} {x : Str} {v : α} : ∀ {l : List (Str × α)}, lookS x l = some v → (x, v) ∈ l
  | [], e => by cases e
  | (y, w) :: r, e => by
    have e : (match strEq y x with
      | true => some w
      | false => lookS x r) = some v := e
    cases h : strEq y x with
    | true => rw [h] at e; cases e; rw [strEq_of h]; exact List.mem_cons_self ..
    | false => rw [h] at e; exact List.mem_cons_of_mem _ (lookS_mem e)
theorem biOf_ok (hw : fn.w = X.w) (hu : X.A.units + 64 < cLine) (hc : X.calm = true) {x : Str} {n : Nat} {b : Bi} (e : biOf x n = some b) : ∃ f, BiOk X cl fn b f ∧ ((∃ id, f = .builtin id) ∨ ∃ T, f = .type T) ∧ bootBuiltins x = some f ∧ x ≠ "__name__" ∧ (x == ("__debug__" : Str)) = false := by
  match n, e with
  | 0, e => cases e
  | 1, e =>
    have h := lookS_mem e
    simp only [List.mem_cons, List.not_mem_nil, or_false, Prod.mk.injEq] at h
    rcases h with ⟨rfl, rfl⟩ | ⟨rfl, rfl⟩ | ⟨rfl, rfl⟩ | ⟨rfl, rfl⟩ | ⟨rfl, rfl⟩ | ⟨rfl, rfl⟩ | ⟨rfl, rfl⟩ | ⟨rfl, rfl⟩ | ⟨rfl, rfl⟩ | ⟨rfl, rfl⟩
    · exact ⟨_, bi_len, .inl ⟨_, rfl⟩, by decide +kernel, by decide, by decide⟩
    · exact ⟨_, bi_abs, .inl ⟨_, rfl⟩, by decide +kernel, by decide, by decide⟩
    · exact ⟨_, bi_int, .inr ⟨_, rfl⟩, by decide +kernel, by decide, by decide⟩
    · exact ⟨_, bi_list hw hc, .inr ⟨_, rfl⟩, by decide +kernel, by decide, by decide⟩
    · exact ⟨_, bi_tuple, .inr ⟨_, rfl⟩, by decide +kernel, by decide, by decide⟩
    · exact ⟨_, bi_sorted hu, .inl ⟨_, rfl⟩, by decide +kernel, by decide, by decide⟩
    · exact ⟨_, bi_any hc, .inl ⟨_, rfl⟩, by decide +kernel, by decide, by decide⟩
    · exact ⟨_, bi_all hc, .inl ⟨_, rfl⟩, by decide +kernel, by decide, by decide⟩
    · exact ⟨_, bi_sum hc, .inl ⟨_, rfl⟩, by decide +kernel, by decide, by decide⟩
    · exact ⟨_, bi_max1 hc, .inl ⟨_, rfl⟩, by decide +kernel, by decide, by decide⟩
  | 2, e =>
    have h := lookS_mem e
    simp only [List.mem_cons, List.not_mem_nil, or_false, Prod.mk.injEq] at h
    rcases h with ⟨rfl, rfl⟩ | ⟨rfl, rfl⟩
    · exact ⟨_, bi_min2 hc, .inl ⟨_, rfl⟩, by decide +kernel, by decide, by decide⟩
    · exact ⟨_, bi_max2 hc, .inl ⟨_, rfl⟩, by decide +kernel, by decide, by decide⟩
  | n + 3, e => cases e
theorem itemsAt_ok {e o : Expr} (h : itemsAt e = some o) : ∃ ap p, e = .Call (.Attribute o "items" ap) [] [] p ∧ baseOk o = true ∧ (ap.endLine == p.line) = true := by
  cases e with
  | Call fe args kws p =>
    cases fe with
    | Attribute o' m ap =>
      cases args with
      | cons _ _ => cases h
      | nil =>
        cases kws with
        | cons _ _ => cases h
        | nil =>
          have h : (match strEq m "items" && (baseOk o' && (ap.endLine == p.line)) with
            | true => some o'
            | false => none) = some o := h
          cases z : strEq m "items" && (baseOk o' && (ap.endLine == p.line)) with
          | false => rw [z] at h; cases h
          | true =>
            rw [z] at h
            cases h
            obtain ⟨h1, h2⟩ := Bool.and_eq_true_iff.mp z
            obtain ⟨h3, h4⟩ := Bool.and_eq_true_iff.mp h2
            obtain rfl := strEq_of h1
            exact ⟨ap, p, rfl, h3, h4⟩
    | _ => cases args <;> cases kws <;> cases h
  | _ => cases h
theorem itemsArg_ok {x : Str} {args : List Expr} {o : Expr} (h : itemsArg x args = some o) : x = "list" ∧ ∃ a, args = [a] ∧ itemsAt a = some o := by
  match args, h with
  | [], h => cases h
  | _ :: _ :: _, h => cases h
  | [a], h =>
    have h : (match strEq x "list" with
      | true => itemsAt a
      | false => none) = some o := h
    cases z : strEq x "list" with
    | false => rw [z] at h; cases h
    | true => rw [z] at h; exact ⟨strEq_of z, a, rfl, h⟩
theorem isBlt_ok (g : Gd G N cl fn cls fa F k X sc) {x : Str} (h : isBlt G sc x = true) : Gl X x ∧ X.mg x = none := by
  obtain ⟨h1, h2⟩ := Bool.and_eq_true_iff.mp h
  exact ⟨isGl_ok (by rw [g.scE]; exact h1), g.fc.md.blt x h2⟩
theorem rangeArg_ok {x : Str} {args : List Expr} {a : Expr} (h : rangeArg G sc x args = some a) : x = "list" ∧ isStar a = false ∧ ∃ y q q2, args = [.Call (.Name y q) [a] [] q2] ∧ y = "range" ∧ isBlt G sc y = true := by
  unfold rangeArg at h
  split at h
  · rename_i y q a' q2
    cases z : strEq x "list" && (isBlt G sc y && (strEq y "range" && !isStar a')) with
    | false => rw [z] at h; cases h
    | true =>
      rw [z] at h
      cases h
      obtain ⟨h1, h2⟩ := Bool.and_eq_true_iff.mp z
      obtain ⟨h3, h4⟩ := Bool.and_eq_true_iff.mp h2
      obtain ⟨h5, h6⟩ := Bool.and_eq_true_iff.mp h4
      exact ⟨strEq_of h1, by simpa using h6, y, q, q2, rfl, strEq_of h5, h3⟩
  · cases h
theorem callBi_okx (g : Gd G N cl fn cls fa F k X sc) {f : Expr → C} {x : Str} {p pos : Pos} {args : List Expr} {kws : List Keyword} (hs : anyStar args = false) (hg : isGl sc x = true) (hb : (G.blts.any fun y => strEq y x) = true) (ih : ∀ e, OkX cl fn cls F X e (f e)) :
    OkX cl fn cls F X (.Call (.Name x p) args kws pos) (callBi G sc f x args kws) := by
  cases kws with
  | cons q qs => exact okx_never
  | nil =>
    show OkX cl fn cls F X _ (match itemsArg x args with
      | some o => .bi .litems [f o]
      | none => match rangeArg G sc x args with
        | some a => .bi .lrange [f a]
        | none => match biOf x args.length with
          | some bi => .bi bi (args.map f)
          | none => .never 20)
    cases hit : itemsArg x args with
    | some o =>
      obtain ⟨rfl, a, rfl, ha⟩ := itemsArg_ok hit
      obtain ⟨ap, p2, rfl, hb1, hb2⟩ := itemsAt_ok ha
      exact okx_plain rfl (fun j => rfl) fun j => pe_litemsC g.fc.wE g.calm (ih o j).1 (isGl_ok (by rw [g.scE]; exact hg)) (g.fc.md.blt _ hb) (base_ok hb1) hb2
    | none =>
    show OkX cl fn cls F X _ (match rangeArg G sc x args with
      | some a => .bi .lrange [f a]
      | none => match biOf x args.length with
        | some bi => .bi bi (args.map f)
        | none => .never 20)
    cases hra : rangeArg G sc x args with
    | some a =>
      obtain ⟨rfl, hsa, y, q, q2, rfl, rfl, hy⟩ := rangeArg_ok hra
      obtain ⟨hy1, hy2⟩ := isBlt_ok g hy
      exact okx_plain rfl (fun j => rfl) fun j => pe_lrangeC g.calm (ih a j).1 hsa (isGl_ok (by rw [g.scE]; exact hg)) (g.fc.md.blt _ hb) hy1 hy2
    | none =>
    show OkX cl fn cls F X _ (match biOf x args.length with
      | some bi => .bi bi (args.map f)
      | none => .never 20)
    cases h : biOf x args.length with
    | none => exact okx_never
    | some b =>
      obtain ⟨v, h1, h2, h3, h4, h5⟩ := biOf_ok (X := X) (cl := cl) (fn := fn) g.fc.wE g.room.units g.calm h
      exact okx_plain rfl (fun j => rfl) fun j => pe_biC h1 h2 (isGl_ok (by rw [g.scE]; exact hg)) (g.fc.md.blt x hb) h3 h4 h5 hs (pa_mapC hs fun e _ => ih e) (by simp)
theorem kdAt_ok (g : Gd G N cl fn cls fa F k X sc) {e : Expr} {kd : Kd} (h : kdAt G sc e = some kd) : KdAt X kd e := by
  cases e with
  | Name x p =>
    have h : (match isBlt G sc x with
      | true => kdOf x
      | false => none) = some kd := h
    cases z : isBlt G sc x with
    | false => rw [z] at h; cases h
    | true =>
      rw [z] at h
      obtain ⟨a, b⟩ := isBlt_ok g z
      exact ⟨x, p, rfl, h, a, b⟩
  | _ => cases h
theorem kdsAt_ok (g : Gd G N cl fn cls fa F k X sc) : ∀ {es : List Expr} {kds : List Kd}, kdsAt G sc es = some kds → Paired (KdAt X) kds es
  | [], _, h => by cases h; exact .nil
  | e :: es, kds, h => by
    have h : (match kdAt G sc e with
      | some k => match kdsAt G sc es with
        | some ks => some (k :: ks)
        | none => none
      | none => none) = some kds := h
    cases z : kdAt G sc e with
    | none => rw [z] at h; cases h
    | some kd =>
      rw [z] at h
      have h : (match kdsAt G sc es with
        | some ks => some (kd :: ks)
        | none => none) = some kds := h
      cases z2 : kdsAt G sc es with
      | none => rw [z2] at h; cases h
      | some kds' =>
        rw [z2] at h
        cases h
        exact .cons (kdAt_ok g z) (kdsAt_ok g z2)
theorem isi1_okx (g : Gd G N cl fn cls fa F k X sc) {f : Expr → C} {p pos : Pos} {a T : Expr} (hs : isStar a = false) (hg : Gl X "isinstance") (hm : X.mg "isinstance" = none) (ih : ∀ e, OkX cl fn cls F X e (f e)) :
    OkX cl fn cls F X (.Call (.Name "isinstance" p) [a, T] [] pos) (match kdAt G sc T with
      | some k => .isi (f a) [k]
      | none => .never 24) := by
  cases z : kdAt G sc T with
  | none => exact okx_never
  | some kd => exact okx_plain rfl (fun j => rfl) fun j => pe_isi1C hg hm hs (ih a j).1 (kdAt_ok g z)
theorem isiOf_okx (g : Gd G N cl fn cls fa F k X sc) {f : Expr → C} {p pos : Pos} {args : List Expr} {kws : List Keyword} (hs : anyStar args = false) (hg : Gl X "isinstance") (hm : X.mg "isinstance" = none) (ih : ∀ e, OkX cl fn cls F X e (f e)) :
    OkX cl fn cls F X (.Call (.Name "isinstance" p) args kws pos) (isiOf G sc f args kws) := by
  match args, kws, hs with
  | [], _, _ => exact okx_never
  | [_], _, _ => exact okx_never
  | _ :: _ :: _ :: _, _, _ => exact okx_never
  | [_, _], _ :: _, _ => exact okx_never
  | [a, T], [], hs =>
    obtain ⟨s1, s2⟩ := anyStar_cons hs
    cases T with
    | Tuple es c tp =>
      show OkX cl fn cls F X _ (match kdsAt G sc es, Nat.ble es.length 1000 with
        | some ks, true => .isi (f a) ks
        | _, _ => .never 24)
      cases z : kdsAt G sc es with
      | none => exact okx_never
      | some kds =>
        cases z2 : Nat.ble es.length 1000 with
        | false => exact okx_never
        | true =>
          have hp := kdsAt_ok g z
          refine okx_plain rfl (fun j => rfl) fun j => pe_isiTC hg hm s1 (ih a j).1 hp ?_
          rw [Paired.length hp]
          exact Nat.le_of_ble_eq_true z2
    | _ => exact isi1_okx g s1 hg hm ih
theorem callOf_okx (g : Gd G N cl fn cls fa F k X sc) {f : Expr → C} {x : Str} {p pos : Pos} {args : List Expr} {kws : List Keyword} (ih : ∀ e, OkX cl fn cls F X e (f e)) :
    OkX cl fn cls F X (.Call (.Name x p) args kws pos) (callOf G sc f x args kws) := by
  unfold callOf
  cases hs : anyStar args with
  | true => exact okx_never
  | false =>
    cases hg : isGl sc x with
    | false => exact okx_never
    | true =>
      cases hb : (G.blts.any fun y => strEq y x) with
      | true =>
        show OkX cl fn cls F X _ (match strEq x "isinstance" with
          | true => isiOf G sc f args kws
          | false => callBi G sc f x args kws)
        cases hi : strEq x "isinstance" with
        | true =>
          have := strEq_of hi
          subst this
          exact isiOf_okx g hs (isGl_ok (by rw [g.scE]; exact hg)) (g.fc.md.blt _ hb) ih
        | false => exact callBi_okx g hs hg hb ih
      | false =>
        cases hk : kwNames kws with
        | none => exact okx_never
        | some ks => exact callFn_okx g hs hg hk ih
theorem cixOf_ok {o : Expr} {m : Str} {xs : List Str} (hc : cixOf G sc o m = some xs) : ∃ x p ps, o = .Name x p ∧ m = "index" ∧ isGl sc x = true ∧ lookS x G.cons = some (.tup ps) ∧ strsOf ps = some xs := by
  cases o with
  | Name x p =>
    have hc : (match strEq m "index" && isGl sc x with
      | true => match lookS x G.cons with
        | some (.tup xs) => strsOf xs
        | _ => none
      | false => none) = some xs := hc
    cases hx : strEq m "index" && isGl sc x with
    | false => rw [hx] at hc; cases hc
    | true =>
      rw [hx] at hc
      obtain ⟨hx1, hx2⟩ := Bool.and_eq_true_iff.mp hx
      have hc : (match lookS x G.cons with
        | some (.tup xs) => strsOf xs
        | _ => none) = some xs := hc
      cases hv : lookS x G.cons with
      | none => rw [hv] at hc; cases hc
      | some v =>
        rw [hv] at hc
        cases v with
        | tup ps => exact ⟨x, p, ps, rfl, strEq_of hx1, hx2, hv, hc⟩
        | _ => cases hc
  | _ => cases hc
theorem mtCall_okx (g : Gd G N cl fn cls fa F k X sc) {f : Expr → C} {o : Expr} {m : Str} {ap pos : Pos} {args : List Expr} {kws : List Keyword} (h1 : (ap.endLine == pos.line) = true) (h2 : baseOk o = true) (hl : args.length < 28) (hs : anyStar args = false) (ih : ∀ e, OkX cl fn cls F X e (f e)) :
    OkX cl fn cls F X (.Call (.Attribute o m ap) args kws pos) (mtCall G sc f o m args kws) := by
  cases kws with
  | cons q qs => exact okx_never
  | nil =>
    show OkX cl fn cls F X _ (match cixOf G sc o m with
      | some xs => match (generalizing := false) args with
        | [a] => .cix xs (f a)
        | _ => .never 36
      | none => match mtOf m args.length with
        | some mt => .mt mt (f o) (args.map f)
        | none => .never 37)
    cases hc : cixOf G sc o m with
    | none =>
      show OkX cl fn cls F X _ (match mtOf m args.length with
        | some mt => .mt mt (f o) (args.map f)
        | none => .never 37)
      cases hm : mtOf m args.length with
      | none => exact okx_never
      | some mt => exact okx_plain rfl (fun j => rfl) fun j => pe_mtC (mt_ok g.fc.wE g.room.units hm) (ih o j).1 (pa_mapC hs fun e _ => ih e) (by simp) h2 hs hl h1
    | some xs =>
      obtain ⟨x, p, ps, rfl, rfl, hx2, hv, hc⟩ := cixOf_ok hc
      obtain ⟨c1, c2⟩ := g.fc.md.con x _ hv
      match args, hs with
      | [], _ => exact okx_never
      | [a], hs => exact okx_plain rfl (fun j => rfl) fun j => pe_cixC c1 hc (isGl_ok (by rw [g.scE]; exact hx2)) c2 (anyStar_cons hs).1 (ih a j).1 h1
      | _ :: _ :: _, _ => exact okx_never
theorem altsOf_ok {n : Nat} {ks : List Str} {i g : Nat} {ar : List Ar} : ∀ {l : List (Str × ClsC)}, natAt g (altsOf G n ks i l) = some ar → cmbIn G g (n + 1) ks = true ∧ ∃ fi, G.fns[g]? = some fi ∧ arOf fi.dfl (n + 1) ks 0 fi.ps = some ar
  | [], h => by cases h
  | q :: r, h => by
    have h : natAt g (match natAt i q.2.mts with
      | none => altsOf G n ks i r
      | some g => match G.fns[g]? with
        | none => altsOf G n ks i r
        | some fi => match cmbIn G g (n + 1) ks with
          | false => altsOf G n ks i r
          | true => match arOf fi.dfl (n + 1) ks 0 fi.ps with
            | none => altsOf G n ks i r
            | some ar => (g, ar) :: altsOf G n ks i r) = some ar := h
    cases z1 : natAt i q.2.mts with
    | none => rw [z1] at h; exact altsOf_ok h
    | some g' =>
      rw [z1] at h
      simp only [] at h
      cases z2 : G.fns[g']? with
      | none => rw [z2] at h; exact altsOf_ok h
      | some fi =>
        rw [z2] at h
        simp only [] at h
        cases z3 : cmbIn G g' (n + 1) ks with
        | false => rw [z3] at h; exact altsOf_ok h
        | true =>
          rw [z3] at h
          simp only [] at h
          cases z4 : arOf fi.dfl (n + 1) ks 0 fi.ps with
          | none => rw [z4] at h; exact altsOf_ok h
          | some ar' =>
            rw [z4] at h
            have h : (match Nat.beq g' g with
              | true => some ar'
              | false => natAt g (altsOf G n ks i r)) = some ar := h
            cases z5 : Nat.beq g' g with
            | true =>
              rw [z5] at h
              cases h
              have := Nat.eq_of_beq_eq_true z5
              subst this
              exact ⟨z3, fi, z2, z4⟩
            | false => rw [z5] at h; exact altsOf_ok h
theorem nameIx_fld (g : Gd G N cl fn cls fa F k X sc) {x : Str} {i : Nat} (h : nameIx G.flds x = some i) : i < fn.n ∧ fn.f i = x := g.fc.md.fld i x (nameIx_ok h)
theorem mth_okm (g : Gd G N cl fn cls fa F k X sc) {i n : Nat} {ks : List Str} (hi : i < fn.n) : MthOk X cl fn F cls k i n ks (altsOf G n ks i G.cls) := by
  refine ⟨hi, fun c cc gg ar h1 h2 h3 => ?_⟩
  rw [g.fc.md.clsE] at h1
  obtain ⟨q, q1, rfl⟩ := clsAt_map h1
  obtain ⟨a1, fi, a2, a3⟩ := altsOf_ok h3
  obtain ⟨_, M⟩ := g.fc.md.mth c q i gg q1 h2
  obtain ⟨fd, f1, f2, f3, f4⟩ := g.fc.fns gg fi a2
  exact ⟨fa gg, fd, fi.ps, M, f1, f4 _ _ _ a1 a3, arOf_len a3⟩
theorem methOf_okx (g : Gd G N cl fn cls fa F k X sc) {f : Expr → C} {o : Expr} {m : Str} {ap pos : Pos} {args : List Expr} {kws : List Keyword} (ih : ∀ e, OkX cl fn cls F X e (f e)) :
    OkX cl fn cls F X (.Call (.Attribute o m ap) args kws pos) (methOf G sc f o m args kws (ap.endLine == pos.line)) := by
  unfold methOf
  cases h : (ap.endLine == pos.line) && (baseOk o && Nat.blt (args.length + kws.length) 28) && !anyStar args with
  | false => exact okx_never
  | true =>
    obtain ⟨h0, h4⟩ := Bool.and_eq_true_iff.mp h
    obtain ⟨h1, h5⟩ := Bool.and_eq_true_iff.mp h0
    obtain ⟨h2, h3⟩ := Bool.and_eq_true_iff.mp h5
    have hs : anyStar args = false := by simpa using h4
    have hl : args.length + kws.length < 28 := Nat.le_of_ble_eq_true h3
    show OkX cl fn cls F X _ (match omIx G m with
      | some i => match kwNames kws with
        | none => .never 34
        | some ks => .omth i (f o) (args.map f ++ kws.map fun q => f q.value) (altsOf G args.length ks i G.cls)
      | none => mtCall G sc f o m args kws)
    cases hi : omIx G m with
    | none => exact mtCall_okx g h1 h2 (by omega) hs ih
    | some i =>
      show OkX cl fn cls F X _ (match kwNames kws with
        | none => .never 34
        | some ks => .omth i (f o) (args.map f ++ kws.map fun q => f q.value) (altsOf G args.length ks i G.cls))
      cases hk : kwNames kws with
      | none => exact okx_never
      | some ks =>
        have hx : nameIx G.flds m = some i := by
          unfold omIx at hi
          cases z : nameIx G.flds m with
          | none => rw [z] at hi; cases hi
          | some i' =>
            rw [z] at hi
            have hi : (match G.cls.any fun q => (natAt i' q.2.mts).isSome with
              | true => some i'
              | false => none) = some i := hi
            cases z2 : G.cls.any fun q => (natAt i' q.2.mts).isSome with
            | true => rw [z2] at hi; exact hi
            | false => rw [z2] at hi; cases hi
        obtain ⟨hi1, hi2⟩ := nameIx_fld g hx
        refine okx_plain rfl (fun j => rfl) fun j => ?_
        have e : (denE cls F (kn cls F j) (.omth i (f o) (args.map f ++ kws.map fun q => f q.value) (altsOf G args.length ks i G.cls))) = ⟨eOmth cls F i ((kn cls F j).e (f o)) ((args.map f).map (kn cls F j).e ++ (kws.map fun q => f q.value).map (kn cls F j).e) (altsOf G args.length ks i G.cls)⟩ := by
          show (⟨eOmth cls F i ((kn cls F j).e (f o)) ((args.map f ++ kws.map fun q => f q.value).map (kn cls F j).e) (altsOf G args.length ks i G.cls)⟩ : Ee) = _
          rw [List.map_append]
        rw [e]
        exact pe_omC (mth_okm g hi1) hi2 (g.room.mono (Nat.le_succ k)) hk h2 hs hl h1 (ih o j).1 (pa_mapC hs fun e _ => ih e) (by simp) (pk_mapC fun q _ => ih q.value) (by simp)
/-! ### what is walked -/
theorem pi_seq_okx (hw : fn.w = X.w) {f : Expr → C} {tg e : Expr} {j : Nat} (h : OkX cl fn cls F X e (f e)) : PI X tg e (cI X.K cl fn (denIt (kn cls F j).e (.seq (f e)))) := pi_seqC hw (h j).1
theorem isTrueK_ok {k : List Keyword} (h : isTrueK k = true) : ∃ i cp kp, k = [⟨some "strict", .Constant (.bool true) i cp, kp⟩] := by
  match k, h with
  | [⟨some x, .Constant (.bool true) i cp, kp⟩], h => exact ⟨i, cp, kp, by rw [strEq_of (show strEq x "strict" = true from h)]⟩
/-- what itK saw -/
def ItKOk (x : Str) (tup : Bool) (args : List Expr) (kws : List Keyword) : ItK → Prop
  | .r1 a => x = "range" ∧ args = [a] ∧ kws = [] ∧ isStar a = false
  | .r2 a b => x = "range" ∧ args = [a, b] ∧ kws = [] ∧ isStar a = false ∧ isStar b = false
  | .en a => x = "enumerate" ∧ args = [a] ∧ kws = [] ∧ isStar a = false ∧ tup = true
  | .zp a b st => x = "zip" ∧ args = [a, b] ∧ isStar a = false ∧ isStar b = false ∧ tup = true ∧ ((st = false ∧ kws = []) ∨ (st = true ∧ ∃ i cp kp, kws = [⟨some "strict", .Constant (.bool true) i cp, kp⟩]))
  | .no => True
theorem itK_ok {x : Str} {tup : Bool} {args : List Expr} {kws : List Keyword} : ItKOk x tup args kws (itK x tup args kws) := by
  match args with
  | [] => exact trivial
  | [a] =>
    cases kws with
    | cons q qs => exact trivial
    | nil =>
      show ItKOk x tup [a] [] (match isStar a with
        | false => match strEq x "range" with
          | true => .r1 a
          | false => match strEq x "enumerate" && tup with
            | true => .en a
            | false => .no
        | true => .no)
      cases hs : isStar a with
      | true => exact trivial
      | false =>
        cases h1 : strEq x "range" with
        | true => exact ⟨strEq_of h1, rfl, rfl, hs⟩
        | false =>
          cases h2 : strEq x "enumerate" && tup with
          | true =>
            obtain ⟨h3, h4⟩ := Bool.and_eq_true_iff.mp h2
            exact ⟨strEq_of h3, rfl, rfl, hs, h4⟩
          | false => exact trivial
  | [a, b] =>
    show ItKOk x tup [a, b] kws (match isStar a || isStar b with
      | false => match strEq x "range" with
        | true => match kws with
          | [] => .r2 a b
          | _ => .no
        | false => match strEq x "zip" && tup with
          | true => match itKwK kws with
            | some st => .zp a b st
            | none => .no
          | false => .no
      | true => .no)
    cases hs : isStar a || isStar b with
    | true => exact trivial
    | false =>
      obtain ⟨s1, s2⟩ := Bool.or_eq_false_iff.mp hs
      cases h1 : strEq x "range" with
      | true =>
        cases kws with
        | nil => exact ⟨strEq_of h1, rfl, rfl, s1, s2⟩
        | cons _ _ => exact trivial
      | false =>
        cases h2 : strEq x "zip" && tup with
        | false => exact trivial
        | true =>
          obtain ⟨h3, h4⟩ := Bool.and_eq_true_iff.mp h2
          cases kws with
          | nil => exact ⟨strEq_of h3, rfl, s1, s2, h4, .inl ⟨rfl, rfl⟩⟩
          | cons q qs =>
            show ItKOk x tup [a, b] (q :: qs) (match (match isTrueK (q :: qs) with
              | true => some true
              | false => none) with
              | some st => .zp a b st
              | none => .no)
            cases h5 : isTrueK (q :: qs) with
            | false => exact trivial
            | true => exact ⟨strEq_of h3, rfl, s1, s2, h4, .inr ⟨rfl, isTrueK_ok h5⟩⟩
  | _ :: _ :: _ :: _ => exact trivial
theorem compIt_okx (g : Gd G N cl fn cls fa F k X sc) {f : Expr → C} {tg e : Expr} {j : Nat} (ih : ∀ e, OkX cl fn cls F X e (f e)) : PI X tg e (cI X.K cl fn (denIt (kn cls F j).e (compIt G sc f (isTupE tg) e))) := by
  cases e with
  | Call fe args kws pos =>
    cases fe with
    | Attribute o m ap =>
      show PI X tg _ (cI X.K cl fn (denIt (kn cls F j).e (match itemsAt (.Call (.Attribute o m ap) args kws pos), isTupE tg with
        | some o, true => .items (f o)
        | _, _ => .seq (f (.Call (.Attribute o m ap) args kws pos)))))
      cases hi : itemsAt (.Call (.Attribute o m ap) args kws pos) with
      | none => exact pi_seq_okx g.fc.wE (ih _)
      | some o' =>
        cases ht : isTupE tg with
        | false => exact pi_seq_okx g.fc.wE (ih _)
        | true =>
          obtain ⟨ap', p', e', h1, h2⟩ := itemsAt_ok hi
          cases e'
          cases tg with
          | Tuple elts kk tpos => exact pi_itemsC g.fc.wE (ih _ j).1 (base_ok h1) h2
          | _ => cases ht
    | Name x p =>
      show PI X tg _ (cI X.K cl fn (denIt (kn cls F j).e (match isBlt G sc x with
        | true => match itK x (isTupE tg) args kws with
          | .r1 a => .range1 (f a)
          | .r2 a b => .range2 (f a) (f b)
          | .en a => .enum (f a)
          | .zp a b st => .zip (f a) (f b) st
          | .no => .seq (f (.Call (.Name x p) args kws pos))
        | false => .seq (f (.Call (.Name x p) args kws pos)))))
      cases h : isBlt G sc x with
      | false => exact pi_seq_okx g.fc.wE (ih _)
      | true =>
        obtain ⟨h3, h4⟩ := Bool.and_eq_true_iff.mp (show (isGl sc x && G.blts.any fun y => strEq y x) = true from h)
        have hg : Gl X x := isGl_ok (by rw [g.scE]; exact h3)
        have hm := g.fc.md.blt _ h4
        have K := itK_ok (x := x) (tup := isTupE tg) (args := args) (kws := kws)
        cases hk : itK x (isTupE tg) args kws with
        | no => exact pi_seq_okx g.fc.wE (ih _)
        | r1 a =>
          rw [hk] at K
          obtain ⟨rfl, rfl, rfl, hs⟩ := K
          exact pi_range1C hg hm hs (ih a j).1
        | r2 a b =>
          rw [hk] at K
          obtain ⟨rfl, rfl, rfl, s1, s2⟩ := K
          exact pi_range2C hg hm s1 s2 (ih a j).1 (ih b j).1
        | en a =>
          rw [hk] at K
          obtain ⟨rfl, rfl, rfl, hs, ht⟩ := K
          cases tg with
          | Tuple elts kk tpos => exact pi_enumC hg hm hs (ih a j).1
          | _ => cases ht
        | zp a b st =>
          rw [hk] at K
          obtain ⟨rfl, rfl, s1, s2, ht, hst⟩ := K
          cases tg with
          | Tuple elts kk tpos =>
            rcases hst with ⟨rfl, rfl⟩ | ⟨rfl, i, cp, kp, rfl⟩
            · exact pi_zipC hg hm s1 s2 (ih a j).1 (ih b j).1
            · exact pi_zipSC hg hm s1 s2 (ih a j).1 (ih b j).1
          | _ => cases ht
    | _ => exact pi_seq_okx g.fc.wE (ih _)
  | _ => exact pi_seq_okx g.fc.wE (ih _)
theorem iterOk_ok {e : Expr} {env : PySem.Env} (h : iterOk e = true) : ∀ x, foldedSetIterable e env x = pure x := by
  intro x
  cases e <;> first | rfl | cases h
end
end Ev

set_option Elab.async false
set_option linter.all false
set_option maxRecDepth 100000
/-! Ev20: targets, comprehensions, all expressions; statements. -/
namespace Ev
open PySem PySem.Spec PyProof.Rows L2

section
variable {G : GI} {N : List Str} {cl : Nat → Addr} {fn : Nm} {fa : Nat → Addr} {F : CallT} {cls : List ClsC} {k : Nat} {X : Cx} {sc : Scope}
/-! ### targets -/
theorem compTgs_cons {f : Expr → Option Tg} {e : Expr} {es : List Expr} {ts : List Tg} (h : compTg.compTgs f (e :: es) = some ts) : ∃ t us, ts = t :: us ∧ f e = some t ∧ compTg.compTgs f es = some us := by
  have h : (match f e with
    | some t => match compTg.compTgs f es with
      | some ts => some (t :: ts)
      | none => none
    | none => none) = some ts := h
  cases h1 : f e with
  | none => rw [h1] at h; cases h
  | some t =>
    rw [h1] at h
    have h : (match compTg.compTgs f es with
      | some ts => some (t :: ts)
      | none => none) = some ts := h
    cases h2 : compTg.compTgs f es with
    | none => rw [h2] at h; cases h
    | some us => rw [h2] at h; cases h; exact ⟨t, us, rfl, rfl, rfl⟩
theorem tg_star {d : Nat} {e : Expr} {t : Tg} (h : compTg N sc d e = some t) : isStar e = false := by
  cases d with
  | zero => cases h
  | succ d => cases e <;> first | rfl | cases h
theorem asg_each {e : Expr} {es : List Expr} {env : PySem.Env} (h : isStar e = false) : assignEach (e :: es) env = (false, assign e env) :: assignEach es env := by
  cases e <;> first | rfl | cases h
def FnOn (X : Cx) (N : List Str) (l : List Nat) : Prop := ∀ i ∈ l, ∀ x, N[i]? = some x → X.fn x = true ∨ X.env.scope.names.lookup x = some .local
theorem tg_ok (g : Gd G N cl fn cls fa F k X sc) : ∀ (d : Nat) (e : Expr) (t : Tg), compTg N sc d e = some t → FnOn X N t.slots → PG X e (cG X.K t)
  | 0, e, t, h, _ => by cases h
  | d + 1, e, t, h, hf => by
    cases e with
    | Name x p =>
      have h : (match slotW N sc x with
        | some i => some (.var i)
        | none => none) = some t := h
      cases h1 : slotW N sc x with
      | none => rw [h1] at h; cases h
      | some i =>
        rw [h1] at h; cases h
        obtain ⟨h2, h3⟩ := slotW_ok h1
        exact pg_nameC (by rw [g.nE]; exact g.nd) (by rw [g.nE]; exact h2) (by rw [g.scE]; exact h3) (hf i (by show i ∈ [i]; simp) x h2)
    | Tuple es c p =>
      have h : (match compTg.compTgs (compTg N sc d) es with
        | some ts => some (.tup ts)
        | none => none) = some t := h
      cases h1 : compTg.compTgs (compTg N sc d) es with
      | none => rw [h1] at h; cases h
      | some ts =>
        rw [h1] at h; cases h
        have hf : FnOn X N (Tg.slotss ts) := hf
        have main : ∀ (es : List Expr) (ts : List Tg), compTg.compTgs (compTg N sc d) es = some ts → FnOn X N (Tg.slotss ts) → PGs X es (cGs X.K ts) ∧ (assignEach es X.env).length = ts.length ∧ (assignEach es X.env).findIdx? (·.1) = none := by
          intro es
          induction es with
          | nil => intro ts h _; cases h; exact ⟨pgs_nilC, rfl, rfl⟩
          | cons e es ih =>
            intro ts h hf
            obtain ⟨t, us, rfl, h2, h3⟩ := compTgs_cons h
            obtain ⟨i1, i2, i3⟩ := ih us h3 fun i hi => hf i (List.mem_append_right _ hi)
            have e1 := asg_each (es := es) (env := X.env) (tg_star h2)
            refine ⟨pgs_consC (tg_ok g d e t h2 fun i hi => hf i (List.mem_append_left _ hi)) i1 (by rw [e1]; rfl), by rw [e1, List.length_cons, List.length_cons, i2], ?_⟩
            rw [e1, List.findIdx?_cons, i3]
            rfl
        obtain ⟨m1, m2, m3⟩ := main es ts h1 hf
        exact pg_tupC g.calm m1 m2 m3
    | _ => cases h
/-! ### comprehensions -/
theorem gd_blk (g : Gd G N cl fn cls fa F k X sc) {s2 : Scope} (hk : s2.kind = .function) (s : Shared) (H : Hp) (C : Addr) (cl' : List (Str × Addr)) (fp : List Addr) : Gd G N cl fn cls fa F k (X.blk s H s2 (compEnvC s2 cl' C X.env) fp) (L2.relS s2 sc) where
  fc := g.fc
  scE := by rw [← g.scE]; rfl
  kind := hk
  nE := g.nE
  nd := g.nd
  calm := g.calm
  room := g.room
theorem ownOf_mem {N : List Str} {x : Str} {i : Nat} : ∀ {l : List (Str × NameKind)}, (x, i) ∈ ownOf N l → (x, NameKind.local) ∈ l ∨ (x, NameKind.cell) ∈ l
  | [], h => by cases h
  | (y, q) :: r, h => by
    have tail : (x, i) ∈ ownOf N r → (x, NameKind.local) ∈ (y, q) :: r ∨ (x, NameKind.cell) ∈ (y, q) :: r := fun h => by
      rcases ownOf_mem h with z | z
      · exact .inl (List.mem_cons_of_mem _ z)
      · exact .inr (List.mem_cons_of_mem _ z)
    cases q with
    | «local» =>
      have h : (x, i) ∈ (match nameIx N y with
        | some i => (y, i) :: ownOf N r
        | none => ownOf N r) := h
      cases z : nameIx N y with
      | none => rw [z] at h; exact tail h
      | some j =>
        rw [z] at h
        rcases List.mem_cons.mp h with e | h
        · cases e; exact .inl (List.mem_cons_self ..)
        · exact tail h
    | cell =>
      have h : (x, i) ∈ (match nameIx N y with
        | some i => (y, i) :: ownOf N r
        | none => ownOf N r) := h
      cases z : nameIx N y with
      | none => rw [z] at h; exact tail h
      | some j =>
        rw [z] at h
        rcases List.mem_cons.mp h with e | h
        · cases e; exact .inr (List.mem_cons_self ..)
        · exact tail h
    | _ => exact tail h
theorem fnOn_blk (g : Gd G N cl fn cls fa F k X sc) {s2 : Scope} {t : Tg} (ok : BlkOk N sc s2 (ownOf N s2.names)) (hs : ∀ i ∈ t.slots, i ∈ (ownOf N s2.names).map (·.2)) (s : Shared) (H : Hp) (C : Addr) (cl' : List (Str × Addr)) (fp : List Addr) : FnOn (X.blk s H s2 (compEnvC s2 cl' C X.env) fp) N t.slots := by
  intro i hi x hx
  obtain ⟨⟨y, i'⟩, h1, h2⟩ := List.mem_map.mp (hs i hi)
  have h2 : i' = i := h2
  subst h2
  have h3 : N[i']? = some y := ok.ix _ h1
  rw [hx] at h3
  cases h3
  rcases ownOf_mem h1 with z | z
  · right
    have := ok.uniq _ z
    exact lookup_relabel_local (env := X.env) this
  · left
    have := ok.uniq _ z
    show (s2.names.lookup x == some .cell) = true
    rw [this]; rfl
/-- what the compiler makes of a list's comprehension -/
inductive LcOk (cl : Nat → Addr) (fn : Nm) (cls : List ClsC) (F : CallT) (X : Cx) (elt : Expr) (gens : List Comprehension) (s2 : Scope) : C → Prop
  | never (n : Nat) : LcOk cl fn cls F X elt gens s2 (.never n)
  | lc {tg iter : Expr} {ifs : List Expr} {own : List (Str × Nat)} {t : Tg} {it : Iy} {cs : List C} {ce : C} (eg : gens = [⟨tg, iter, ifs, 0⟩]) (hN : X.N.Nodup) (hi : ∀ j, PI X tg iter (cI X.K cl fn (denIt (kn cls F j).e it))) (ok : BlkOk X.N X.env.scope s2 own)
    (hg : ∀ (s : Shared) (H : Hp) (C : Addr) (cl' : List (Str × Addr)) (fp : List Addr), PG (X.blk s H s2 (compEnvC s2 cl' C X.env) fp) tg (cG X.K t))
    (ht : ∀ (j : Nat) (s : Shared) (H : Hp) (C : Addr) (cl' : List (Str × Addr)) (fp : List Addr), PTs (X.blk s H s2 (compEnvC s2 cl' C X.env) fp) ifs (cTs X.K cl fn (cs.map (kn cls F j).t)))
    (he : ∀ (j : Nat) (s : Shared) (H : Hp) (C : Addr) (cl' : List (Str × Addr)) (fp : List Addr), PE (X.blk s H s2 (compEnvC s2 cl' C X.env) fp) elt (cE X.K cl fn ((kn cls F j).e ce)))
    (hs : ∀ x, foldedSetIterable iter X.env x = pure x) (hsl : ∀ i ∈ t.slots, i ∈ own.map (·.2)) : LcOk cl fn cls F X elt gens s2 (.lc (own.map (·.2)) t it cs ce)
theorem lcOk_okx (hc : X.calm = true) {elt : Expr} {gens : List Comprehension} {s2 : Scope} {p : Pos} {c : C} (h : LcOk cl fn cls F X elt gens s2 c) : OkX cl fn cls F X (.ListComp elt gens s2 p) c := by
  cases h with
  | never n => exact okx_never
  | lc eg hN hi ok hg ht he hs hsl =>
    subst eg
    exact okx_plain rfl (fun j => rfl) fun j => pe_lcC hc hN (hi j) ok hg (ht j) (he j) hs hsl
theorem ownTg_ok {s2 : Scope} {tg : Expr} {t : Tg} (h : ownTg N sc s2 tg = some t) : compTg N (L2.relS s2 sc) 5 tg = some t ∧ ∀ i ∈ t.slots, i ∈ (ownOf N s2.names).map (·.2) := by
  unfold ownTg at h
  cases h1 : compTg N (L2.relS s2 sc) 5 tg with
  | none => rw [h1] at h; cases h
  | some u =>
    rw [h1] at h
    have h : (match slotsIn ((ownOf N s2.names).map (·.2)) u with
      | true => some u
      | false => none) = some t := h
    cases h2 : slotsIn ((ownOf N s2.names).map (·.2)) u with
    | false => rw [h2] at h; cases h
    | true => rw [h2] at h; cases h; exact ⟨rfl, slotsIn_ok h2⟩
theorem lc_ok (g : Gd G N cl fn cls fa F k X sc) {d : Nat} (ih : ∀ {X : Cx} {sc : Scope}, Gd G N cl fn cls fa F k X sc → ∀ e, OkX cl fn cls F X e (compE G N d sc e)) {elt : Expr} {gens : List Comprehension} {s2 : Scope} {p : Pos} : LcOk cl fn cls F X elt gens s2 (compE G N (d + 1) sc (.ListComp elt gens s2 p)) := by
  match gens with
  | [] => exact .never 50
  | ⟨_, _, _, _⟩ :: _ :: _ => exact .never 50
  | [⟨tg, iter, ifs, as⟩] =>
    show LcOk cl fn cls F X elt _ s2 (match ownTg N sc s2 tg, isZ as && (blkB N sc s2 && (Nat.ble ifs.length 1 && iterOk iter)) with
      | some t, true => .lc ((ownOf N s2.names).map (·.2)) t (compIt G sc (compE G N d sc) (isTupE tg) iter) (ifs.map (compE G N d (L2.relS s2 sc))) (compE G N d (L2.relS s2 sc) elt)
      | _, _ => .never 50)
    cases h1 : ownTg N sc s2 tg with
    | none => exact .never 50
    | some t =>
      cases h2 : isZ as && (blkB N sc s2 && (Nat.ble ifs.length 1 && iterOk iter)) with
      | false => exact .never 50
      | true =>
        obtain ⟨q1, q2⟩ := Bool.and_eq_true_iff.mp h2
        obtain ⟨q3, q4⟩ := Bool.and_eq_true_iff.mp q2
        obtain ⟨q5, q6⟩ := Bool.and_eq_true_iff.mp q4
        have hb : BlkOk N sc s2 (ownOf N s2.names) := blkOk_by q3
        obtain ⟨t1, t2⟩ := ownTg_ok h1
        have hl : ifs.length ≤ 1 := Nat.le_of_ble_eq_true q5
        refine .lc (by rw [isZ_eq q1]) (by rw [g.nE]; exact g.nd) (fun j => compIt_okx g fun e => ih g e) (by rw [g.nE, g.scE]; exact hb) (fun s H C cl' fp => tg_ok (gd_blk g hb.kind s H C cl' fp) 5 tg t t1 (fnOn_blk g hb t2 s H C cl' fp)) (fun j s H C cl' fp => ?_) (fun j s H C cl' fp => (ih (gd_blk g hb.kind s H C cl' fp) elt j).1) (iterOk_ok q6) t2
        match ifs, hl with
        | [], _ => exact pts_nilC
        | [c], _ => exact pts_oneC (ih (gd_blk g hb.kind s H C cl' fp) c j).2
        | _ :: _ :: _, hl => exact absurd hl (by simp)
/-- what the compiler makes of a dict's comprehension -/
inductive DcOk (cl : Nat → Addr) (fn : Nm) (cls : List ClsC) (F : CallT) (X : Cx) (kx vx : Expr) (gens : List Comprehension) (s2 : Scope) : C → Prop
  | never (n : Nat) : DcOk cl fn cls F X kx vx gens s2 (.never n)
  | dc {tg iter : Expr} {ifs : List Expr} {own : List (Str × Nat)} {t : Tg} {it : Iy} {cs : List C} {ck ce : C} (eg : gens = [⟨tg, iter, ifs, 0⟩]) (hN : X.N.Nodup) (hi : ∀ j, PI X tg iter (cI X.K cl fn (denIt (kn cls F j).e it))) (ok : BlkOk X.N X.env.scope s2 own)
    (hg : ∀ (s : Shared) (H : Hp) (C : Addr) (cl' : List (Str × Addr)) (fp : List Addr), PG (X.blk s H s2 (compEnvC s2 cl' C X.env) fp) tg (cG X.K t))
    (ht : ∀ (j : Nat) (s : Shared) (H : Hp) (C : Addr) (cl' : List (Str × Addr)) (fp : List Addr), PTs (X.blk s H s2 (compEnvC s2 cl' C X.env) fp) ifs (cTs X.K cl fn (cs.map (kn cls F j).t)))
    (hk : ∀ (j : Nat) (s : Shared) (H : Hp) (C : Addr) (cl' : List (Str × Addr)) (fp : List Addr), PE (X.blk s H s2 (compEnvC s2 cl' C X.env) fp) kx (cE X.K cl fn ((kn cls F j).e ck)))
    (he : ∀ (j : Nat) (s : Shared) (H : Hp) (C : Addr) (cl' : List (Str × Addr)) (fp : List Addr), PE (X.blk s H s2 (compEnvC s2 cl' C X.env) fp) vx (cE X.K cl fn ((kn cls F j).e ce)))
    (hs : ∀ x, foldedSetIterable iter X.env x = pure x) (hsl : ∀ i ∈ t.slots, i ∈ own.map (·.2)) : DcOk cl fn cls F X kx vx gens s2 (.dc (own.map (·.2)) t it cs ck ce)
theorem dcOk_okx (hw : fn.w = X.w) (hu : X.A.units + 64 < cLine) (hc : X.calm = true) {kx vx : Expr} {gens : List Comprehension} {s2 : Scope} {p : Pos} {c : C} (h : DcOk cl fn cls F X kx vx gens s2 c) : OkX cl fn cls F X (.DictComp kx vx gens s2 p) c := by
  cases h with
  | never n => exact okx_never
  | dc eg hN hi ok hg ht hk he hs hsl =>
    subst eg
    exact okx_plain rfl (fun j => rfl) fun j => pe_dcC hw hu hc hN (hi j) ok hg (ht j) (hk j) (he j) hs hsl
theorem dc_ok (g : Gd G N cl fn cls fa F k X sc) {d : Nat} (ih : ∀ {X : Cx} {sc : Scope}, Gd G N cl fn cls fa F k X sc → ∀ e, OkX cl fn cls F X e (compE G N d sc e)) {kx vx : Expr} {gens : List Comprehension} {s2 : Scope} {p : Pos} : DcOk cl fn cls F X kx vx gens s2 (compE G N (d + 1) sc (.DictComp kx vx gens s2 p)) := by
  match gens with
  | [] => exact .never 51
  | ⟨_, _, _, _⟩ :: _ :: _ => exact .never 51
  | [⟨tg, iter, ifs, as⟩] =>
    show DcOk cl fn cls F X kx vx _ s2 (match ownTg N sc s2 tg, isZ as && (blkB N sc s2 && (Nat.ble ifs.length 1 && iterOk iter)) with
      | some t, true => .dc ((ownOf N s2.names).map (·.2)) t (compIt G sc (compE G N d sc) (isTupE tg) iter) (ifs.map (compE G N d (L2.relS s2 sc))) (compE G N d (L2.relS s2 sc) kx) (compE G N d (L2.relS s2 sc) vx)
      | _, _ => .never 51)
    cases h1 : ownTg N sc s2 tg with
    | none => exact .never 51
    | some t =>
      cases h2 : isZ as && (blkB N sc s2 && (Nat.ble ifs.length 1 && iterOk iter)) with
      | false => exact .never 51
      | true =>
        obtain ⟨q1, q2⟩ := Bool.and_eq_true_iff.mp h2
        obtain ⟨q3, q4⟩ := Bool.and_eq_true_iff.mp q2
        obtain ⟨q5, q6⟩ := Bool.and_eq_true_iff.mp q4
        have hb : BlkOk N sc s2 (ownOf N s2.names) := blkOk_by q3
        obtain ⟨t1, t2⟩ := ownTg_ok h1
        have hl : ifs.length ≤ 1 := Nat.le_of_ble_eq_true q5
        refine .dc (by rw [isZ_eq q1]) (by rw [g.nE]; exact g.nd) (fun j => compIt_okx g fun e => ih g e) (by rw [g.nE, g.scE]; exact hb) (fun s H C cl' fp => tg_ok (gd_blk g hb.kind s H C cl' fp) 5 tg t t1 (fnOn_blk g hb t2 s H C cl' fp)) (fun j s H C cl' fp => ?_)
          (fun j s H C cl' fp => (ih (gd_blk g hb.kind s H C cl' fp) kx j).1) (fun j s H C cl' fp => (ih (gd_blk g hb.kind s H C cl' fp) vx j).1) (iterOk_ok q6) t2
        match ifs, hl with
        | [], _ => exact pts_nilC
        | [c], _ => exact pts_oneC (ih (gd_blk g hb.kind s H C cl' fp) c j).2
        | _ :: _ :: _, hl => exact absurd hl (by simp)
theorem all_some : ∀ {ks : List (Option Expr)}, ks.all (·.isSome) = true → ks = (ks.filterMap id).map some
  | [], _ => rfl
  | none :: _, h => by simp at h
  | some e :: ks, h => by
    have h : ks.all (·.isSome) = true := by simpa using h
    show some e :: ks = some e :: (ks.filterMap id).map some
    rw [← all_some h]
theorem paired_mapC {f : Expr → C} {j : Nat} : ∀ {es : List Expr}, (∀ e, OkX cl fn cls F X e (f e)) → Paired (fun e f => PE X e (cE X.K cl fn f)) es ((es.map f).map (kn cls F j).e)
  | [], _ => .nil
  | e :: _, ih => .cons (ih e j).1 (paired_mapC ih)
/-! ### all -/
theorem compE_ok : ∀ (d : Nat) {X : Cx} {sc : Scope}, Gd G N cl fn cls fa F k X sc → ∀ e, OkX cl fn cls F X e (compE G N d sc e)
  | 0, _, _, _, _ => okx_never
  | d + 1, X, sc, g, e => by
    have ih : ∀ {X : Cx} {sc : Scope}, Gd G N cl fn cls fa F k X sc → ∀ e, OkX cl fn cls F X e (compE G N d sc e) := fun g e => compE_ok d g e
    have hu : X.A.units + 64 < cLine := g.room.units
    cases e with
    | Name x p => exact name_okx g
    | Constant c i p => exact lit_okx
    | Tuple es c p =>
      show OkX cl fn cls F X _ (match anyStar es || !Nat.ble es.length 1000 with
        | false => .tup (es.map (compE G N d sc))
        | true => .never 44)
      cases h : anyStar es || !Nat.ble es.length 1000 with
      | true => exact okx_never
      | false =>
        obtain ⟨h1, h2⟩ := Bool.or_eq_false_iff.mp h
        have h3 : es.length ≤ 1000 := Nat.le_of_ble_eq_true (by simpa using h2)
        exact okx_plain rfl (fun j => rfl) fun j => pe_tupC (pa_mapC h1 fun e _ => ih g e) (by simpa using h3)
    | List es p =>
      show OkX cl fn cls F X _ (match anyStar es || !Nat.ble es.length 1000 with
        | false => .lst (es.map (compE G N d sc))
        | true => .never 45)
      cases h : anyStar es || !Nat.ble es.length 1000 with
      | true => exact okx_never
      | false =>
        obtain ⟨h1, h2⟩ := Bool.or_eq_false_iff.mp h
        have h3 : es.length ≤ 1000 := Nat.le_of_ble_eq_true (by simpa using h2)
        exact okx_plain rfl (fun j => rfl) fun j => pe_lstC (pa_mapC h1 fun e _ => ih g e) (by simpa using h3)
    | BinOp a op b p =>
      show OkX cl fn cls F X _ (match bopOf op with
        | some o => .bin o (compE G N d sc a) (compE G N d sc b)
        | none => .never 46)
      cases h : bopOf op with
      | none => exact okx_never
      | some o => exact okx_plain rfl (fun j => rfl) fun j => pe_binC h (ih g a j).1 (ih g b j).1
    | UnaryOp op a p =>
      cases op with
      | Not => exact okx_of fun j => ⟨pe_notC (ih g a j).1, pt_notC (ih g a j).2⟩
      | USub => exact okx_plain rfl (fun j => rfl) fun j => pe_negC (ih g a j).1
      | _ => exact okx_never
    | BoolOp op es p =>
      cases op with
      | And => exact fun j => ⟨(and_okx (fun e _ => ih g e) j).1, (and_okx (fun e _ => ih g e) j).2.pt⟩
      | Or => exact fun j => ⟨(or_okx (fun e _ => ih g e) j).1, (or_okx (fun e _ => ih g e) j).2.pt⟩
    | Compare a ops cs p =>
      match ops, cs with
      | [op], [b] =>
        show OkX cl fn cls F X _ (match copOf op, behindInMarks op b with
          | some o, false => .cmp o (compE G N d sc a) (compE G N d sc b)
          | _, _ => .never 47)
        cases h : copOf op with
        | none => exact okx_never
        | some o =>
          cases h2 : behindInMarks op b with
          | true => exact okx_never
          | false => exact okx_of fun j => ⟨pe_cmpC (cop_ok g.fc.wE hu h) h2 (ih g a j).1 (ih g b j).1, pt_cmpC (cop_ok g.fc.wE hu h) h2 (ih g a j).1 (ih g b j).1⟩
      | [op, op'], [b, c] =>
        show OkX cl fn cls F X _ (match copOf op, copOf op', lastMarks [op, op'] [b, c] with
          | some o, some o', false => .chain o o' (compE G N d sc a) (compE G N d sc b) (compE G N d sc c)
          | _, _, _ => .never 47)
        cases h : copOf op with
        | none => exact okx_never
        | some o =>
          cases h1 : copOf op' with
          | none => exact okx_never
          | some o' =>
            cases h2 : lastMarks [op, op'] [b, c] with
            | true => exact okx_never
            | false => exact okx_of fun j => ⟨pe_chainC (cop_ok g.fc.wE hu h) (cop_ok g.fc.wE hu h1) h2 (ih g a j).1 (ih g b j).1 (ih g c j).1, pt_chainC (cop_ok g.fc.wE hu h) (cop_ok g.fc.wE hu h1) h2 (ih g a j).1 (ih g b j).1 (ih g c j).1⟩
      | [], _ => exact okx_never
      | [_], [] => exact okx_never
      | [_], _ :: _ :: _ => exact okx_never
      | [_, _], [] => exact okx_never
      | [_, _], [_] => exact okx_never
      | [_, _], _ :: _ :: _ :: _ => exact okx_never
      | _ :: _ :: _ :: _, _ => exact okx_never
    | IfExp t a b p => exact okx_of fun j => ⟨pe_iteC (ih g t j).2 (ih g a j).1 (ih g b j).1, pt_iteC (ih g t j).2 (ih g a j).2 (ih g b j).2⟩
    | Subscript a i p =>
      show OkX cl fn cls F X _ (match slK i with
        | .ix => .ix (compE G N d sc a) (compE G N d sc i)
        | .rv => .rv (compE G N d sc a)
        | .sl lo hi => .sl (compE G N d sc a) (optC (compE G N d sc) lo) (optC (compE G N d sc) hi)
        | .no => .never 48)
      have hk := slK_ok i
      generalize slK i = q at hk
      cases hk with
      | ix h => exact okx_plain rfl (fun j => rfl) fun j => pe_ixC g.fc.wE hu h (ih g a j).1 (ih g i j).1
      | rv c p1 p2 p3 h => subst h; exact okx_plain rfl (fun j => rfl) fun j => pe_rvC (ih g a j).1
      | sl lo hi p h => subst h; exact okx_plain rfl (fun j => rfl) fun j => pe_slC (ih g a j).1 (po_optC fun e _ => ih g e) (po_optC fun e _ => ih g e)
      | no => exact okx_never
    | Call fe args kws p =>
      cases fe with
      | Name x np => exact callOf_okx g fun e => ih g e
      | Attribute o m ap => exact methOf_okx g fun e => ih g e
      | _ => exact okx_never
    | ListComp elt gens s2 p => exact lcOk_okx g.calm (lc_ok g ih)
    | DictComp kx vx gens s2 p => exact dcOk_okx g.fc.wE hu g.calm (dc_ok g ih)
    | Dict ks vs p =>
      show OkX cl fn cls F X _ (match Nat.ble ks.length 15 && (Nat.beq ks.length vs.length && ks.all (·.isSome)) with
        | true => .dct ((ks.filterMap id).map (compE G N d sc)) (vs.map (compE G N d sc))
        | false => .never 49)
      cases h : Nat.ble ks.length 15 && (Nat.beq ks.length vs.length && ks.all (·.isSome)) with
      | false => exact okx_never
      | true =>
        obtain ⟨h1, h2⟩ := Bool.and_eq_true_iff.mp h
        obtain ⟨h3, h4⟩ := Bool.and_eq_true_iff.mp h2
        have e := all_some h4
        generalize ks.filterMap id = es at e
        subst e
        rw [List.length_map] at h1 h3
        refine okx_plain rfl (fun j => rfl) fun j => ?_
        exact pe_dctC g.fc.wE hu (paired_mapC fun e => ih g e) (paired_mapC fun e => ih g e) (Nat.eq_of_beq_eq_true h3) (Nat.le_of_ble_eq_true h1)
    | Attribute o x p =>
      show OkX cl fn cls F X _ (match baseOk o, nameIx G.flds x with
        | true, some i => .fld (compE G N d sc o) i
        | _, _ => .never 56)
      cases h : baseOk o with
      | false => exact okx_never
      | true =>
        cases h2 : nameIx G.flds x with
        | none => exact okx_never
        | some i =>
          obtain ⟨h3, h4⟩ := nameIx_fld g h2
          exact okx_plain rfl (fun j => rfl) fun j => pe_fldC h4 h3 h (ih g o j).1
    | _ => exact okx_never
end
end Ev

set_option Elab.async false
set_option linter.all false
set_option maxRecDepth 100000
/-! EvK: name = f if c else g; return name(..). -/
namespace Ev
open PySem PySem.Spec PyProof.Rows L2

section
variable {K : PySem.W.Frag} {m : List Addr} {H : Hp}
theorem EnvR.blur {v : Option V} : ∀ {env : Env} {σ : L2.St} (i : Nat), EnvR K m H env σ → EnvR K m H (Ev.wipe1 env i) (σ.set i v)
  | _, _, _, .nil => .nil
  | _, _, 0, .cons _ t => .cons trivial t
  | _, _, i + 1, .cons r t => .cons r (EnvR.blur i t)
theorem EnvR.len {env : Env} {σ : L2.St} (r : EnvR K m H env σ) : env.length = σ.length := Paired.length r
end
section
variable {X : Cx} {cl : Nat → Addr} {fn : Nm} {pos : Pos}
/-- a call of the function that a name of ours holds -/
theorem pe_callL {k : Nat} {f : Addr} {fd : FuncData} {ps : List Str} {x : Str} {p : Pos} {i : Nat} {e0 : Expr} {es : List Expr} {fs : List Ee} {ar : List Ar} {F : List PV → Hh → R PV} (hF : FnOk X.prog X.w X.K X.mg X.base (L2.CX X.prog X.w) k f fd ps (spOf X.K cl fn F ps.length)) (hr : Room k X.A) (hN : X.N[i]? = some x) (hv : Vis X.env.scope x)
    (hk : PySem.W.keepIn X.K (.ref f) = true) (hb : BnOk X.K fd ps (e0 :: es).length [] ar) (har : ar.length = ps.length) (hs : anyStar (e0 :: es) = false) (ha : PA X (e0 :: es) (cL X.K cl fn fs)) (hfs : fs.length = (e0 :: es).length) (hdb : (x == ("__debug__" : Str)) = false) (hcd : (x == ("__classdict__" : Str)) = false) :
    PE X (.Call (.Name x p) (e0 :: es) [] pos) (fun σ H Q => σ[i]? = some (some (.ref f)) ∧ cE X.K cl fn ⟨eCall F fs ar⟩ σ H Q) := by
  obtain ⟨g, gV, hb, hrr⟩ := hb
  obtain ⟨s1, s2⟩ := anyStar_cons hs
  refine ⟨fun pins s σ H Q I ⟨hl, w⟩ => ?_⟩
  have w : cE X.K cl fn ⟨eCall F (fs ++ []) ar⟩ σ H Q := by rw [List.append_nil]; exact w
  have h := call_read (X := X) (n := (e0 :: es).length) (fs := fs) (gs := []) (gV := gV) (E := fun _ _ _ => False) (np := ps.length) hfs hrr har w
  refine wpAny_Call_Name_kw (thn ((pe_var hN hv hdb hcd).run pins s σ H (fun v H1 => v = .ref f ∧ tCallN (e0 :: es).length 0 (spOf X.K cl fn F ps.length) gV (fun _ _ _ => False) (cL X.K cl fn fs) (cL X.K cl fn []) σ H1 Q) I ⟨.ref f, hl, rfl, h⟩) fun u s0 ⟨v, H0, I0, rv, ev, h⟩ => ?_)
  subst ev
  obtain rfl : u = Value.ref f := rv
  refine PySem.W.callWith_KW (h₀ := X.base) I0.ok.mod.kin hk rfl (thn (ha.run pos pins s0 σ H0 _ I0 h) fun us s1 ⟨vs, H1, I1, r, q⟩ => ?_) (by rw [tail_stars hs]; rfl) (star_no s1)
  refine thn (pk_nilC.run pos pins s1 σ H1 _ I1 q) fun ws s2 ⟨zs, H2, I2, rz, l1, l2, q2⟩ => ⟨I2.kIn, ?_⟩
  exact run_fnN hF hr hb (passL (E := fun _ _ _ => False) fun _ _ _ h => h) I2 r rz l1 l2 q2
theorem ps_pick {i : Nat} {x fx fy : Str} {p p' px py q q' pi : Pos} {t : Expr} {es : List Expr} {ft : Et} {f1 f2 : Addr} {fa fb : Ee} (hN : X.N.Nodup) (hi : X.N[i]? = some x) (hx : Loc X.env.scope x) (ht : PT X t (cT X.K cl fn ft))
    (g1 : Gl X fx) (m1 : X.mg fx = some (.ref f1)) (d1 : (fx == ("__debug__" : Str)) = false) (g2 : Gl X fy) (m2 : X.mg fy = some (.ref f2)) (d2 : (fy == ("__debug__" : Str)) = false)
    (h1 : PE X (.Call (.Name x p') es [] q) (fun σ H Q => σ[i]? = some (some (.ref f1)) ∧ cE X.K cl fn fa σ H Q)) (h2 : PE X (.Call (.Name x p') es [] q) (fun σ H Q => σ[i]? = some (some (.ref f2)) ∧ cE X.K cl fn fb σ H Q)) (hf : X.fn x = true ∨ X.env.scope.names.lookup x = some .local) :
    PSs X [.Assign [.Name x p] (.IfExp t (.Name fx px) (.Name fy py) pi) pos, .Return (some (.Call (.Name x p') es [] q)) q'] (cS X.K cl fn ⟨sPick ft i fa fb⟩) := by
  have hE : PE X (.Call (.Name x p') es [] q) (fun σ H Q => (σ[i]? = some (some (.ref f1)) ∧ cE X.K cl fn fa σ H Q) ∨ (σ[i]? = some (some (.ref f2)) ∧ cE X.K cl fn fb σ H Q)) :=
    ⟨fun pins s σ H Q I h => h.elim (h1.run pins s σ H Q I) (h2.run pins s σ H Q I)⟩
  have hA := ps_set (pos := pos) (pos' := p) hN hi hx (pe_ifExp (pos := pi) ht (pe_glob (pos := px) g1 m1 (v := .ref f1) rfl d1) (pe_glob (pos := py) g2 m2 (v := .ref f2) rfl d2)) rfl hf
  refine (pss_cons hA (pss_cons (ps_ret (pos := q') hE) pss_nil)).of fun D σ H ⟨m, env, h, e, r, k⟩ => ?_
  have k : OkS X.K cl fn (match listAt env i with
    | some _ => match ft.run env h with
      | .ok k h1 => match k with
        | true => sRet fa (wipe1 env i) h1
        | false => sRet fb (wipe1 env i) h1
      | .no n => .no n
    | none => .no 170) m H D := k
  cases zi : listAt env i with
  | none => rw [zi] at k; exact k.elim
  | some o =>
    rw [zi] at k
    have hlt : i < σ.length := by
      rw [← e.len]
      rw [listAt_get] at zi
      exact (List.getElem?_eq_some_iff.mp zi).1
    have k : OkS X.K cl fn (match ft.run env h with
      | .ok k h1 => match k with
        | true => sRet fa (wipe1 env i) h1
        | false => sRet fb (wipe1 env i) h1
      | .no n => .no n) m H D := k
    cases z : ft.run env h with
    | no n => rw [z] at k; exact k.elim
    | ok c h1' =>
      rw [z] at k
      refine cT.bind e r (fun v' h1'' z' m1 H1 g1 r1 e1 => ?_) (fun n z' => by rw [z] at z'; cases z')
      rw [z] at z'; cases z'
      have fin : ∀ (f0 : Ee) (ad : Addr), OkS X.K cl fn (sRet f0 (wipe1 env i) h1') m H D → ((σ.set i (some (.ref ad)))[i]? = some (some (.ref ad)) ∧ cE X.K cl fn f0 (σ.set i (some (.ref ad))) H1 D.rt) := by
        intro f0 ad k
        refine ⟨by rw [List.getElem?_set_self hlt], m1, wipe1 env i, h1', e1.blur i, r1, ?_⟩
        have k : OkS X.K cl fn (match f0.run (wipe1 env i) h1' with
          | .ok v h1 => .ok (.rt v) h1
          | .no n => .no n) m H D := k
        cases zf : f0.run (wipe1 env i) h1' with
        | no n => rw [zf] at k; exact k.elim
        | ok v h2 =>
          rw [zf] at k
          exact fun m2 H2 x g2 r2 q2 => k m2 H2 (g1.trans g2) r2 x q2
      cases c with
      | true => rw [if_pos rfl]; exact .inl (fin fa f1 k)
      | false => rw [if_neg (by simp)]; exact .inr (fin fb f2 k)
end
end Ev

set_option Elab.async false
set_option linter.all false
set_option maxRecDepth 100000
/-! Ev21: statements, functions. -/
namespace Ev
open PySem PySem.Spec PyProof.Rows L2

structure SGd (G : GI) (N : List Str) (cl : Nat → Addr) (fn : Nm) (cls : List ClsC) (fa : Nat → Addr) (F : CallT) (k : Nat) (X : Cx) (sc : Scope) : Prop where
  gd : Gd G N cl fn cls fa F k X sc
  fnT : ∀ x, X.fn x = true
  own : PassesOwn (model X.prog X.w) X.A X.env X.xe
section
variable {G : GI} {N : List Str} {cl : Nat → Addr} {fn : Nm} {fa : Nat → Addr} {F : CallT} {cls : List ClsC} {k : Nat} {X : Cx} {sc : Scope}
theorem SGd.blk (g : SGd G N cl fn cls fa F k X sc) : X.env.blockKind = .function := by
  have h : X.env.scope.kind = .function := by rw [g.gd.scE]; exact g.gd.kind
  unfold Env.blockKind
  rw [h]; rfl
theorem pss_neverC {ss : List Stmt} {f : Es} (hf : ∀ env h, ∃ n, f.run env h = .no n) : PSs X ss (cS X.K cl fn f) :=
  ⟨fun pins s σ H D I ⟨m, env, h, e, r, k⟩ => by
    obtain ⟨n, en⟩ := hf env h
    rw [en] at k; exact k.elim⟩
theorem ps_neverC' {s : Stmt} {f : Es} (hf : ∀ env h, ∃ n, f.run env h = .no n) : PS X s (cS X.K cl fn f) :=
  ⟨fun pins s σ H D I ⟨m, env, h, e, r, k⟩ => by
    obtain ⟨n, en⟩ := hf env h
    rw [en] at k; exact k.elim⟩
theorem swap_no {e t : Expr} {l : Nat} {env : PySem.Env} (h : isComp e = false) : swapsWith e (some t) l env = pure false := by
  cases e <;> first | rfl | cases h
theorem swap_no0 {e : Expr} {l : Nat} {env : PySem.Env} (h : isComp e = false) : swapsWith e none l env = pure false := by
  cases e <;> first | rfl | cases h
theorem asg_one {t : Expr} {env : PySem.Env} (h : isStar t = false) : (assignEach [t] env).map (·.2) = [assign t env] := by
  cases t <;> first | rfl | cases h
/-- name = e -/
theorem asg_name (g : SGd G N cl fn cls fa F k X sc) {d : Nat} (hd : 0 < d) {x : Str} {p pos : Pos} {e : Expr} {j : Nat} : PS X (.Assign [.Name x p] e pos) (cS X.K cl fn (denS cls (kn cls F depthCode) (ks cls F j) (compAsg G N sc (compE G N d sc) (.Name x p) e))) := by
  show PS X _ (cS X.K cl fn (denS cls (kn cls F depthCode) (ks cls F j) (match slotW N sc x with
    | some i => .asg (.var i) (compE G N d sc e)
    | none => .never 60)))
  cases h : slotW N sc x with
  | none => exact ps_neverC' fun _ _ => ⟨_, rfl⟩
  | some i =>
    obtain ⟨h1, h2⟩ := slotW_ok h
    have hN : X.N.Nodup := by rw [g.gd.nE]; exact g.gd.nd
    have hi : X.N[i]? = some x := by rw [g.gd.nE]; exact h1
    have hx : Loc X.env.scope x := by rw [g.gd.scE]; exact h2
    have he := (compE_ok (cls := cls) d g.gd e depthCode).1
    by_cases hc : isComp e = false
    · exact ps_setC hN hi hx he (swap_no hc) (.inl (g.fnT x))
    · cases e with
      | ListComp elt gens s2 ep =>
        obtain ⟨d', rfl⟩ : ∃ d', d = d' + 1 := ⟨d - 1, by omega⟩
        have hl := lc_ok (cls := cls) g.gd (fun g e => compE_ok d' g e) (elt := elt) (gens := gens) (s2 := s2) (p := ep)
        generalize compE G N (d' + 1) sc (.ListComp elt gens s2 ep) = c at hl he ⊢
        cases hl with
        | never n => exact ps_neverC' fun _ _ => ⟨_, rfl⟩
        | @lc tg iter ifs own t it cs ce eg hN' hi' ok hg ht he' hs hsl =>
          subst eg
          have hsw : ∃ b, swapsWith (.ListComp elt [⟨tg, iter, ifs, 0⟩] s2 ep) (some (.Name x p)) pos.line X.env = pure b ∧ (b = true → X.env.scope.names.lookup x = some .local) := by
            refine ⟨X.env.blockKind == .function && X.env.kindOf x == some .local && p.line == ep.line && !(s2.names.any fun (n, k) => n == x && (k == .local || k == .cell)), rfl, fun hb => ?_⟩
            have h3 := (Bool.and_eq_true_iff.mp (Bool.and_eq_true_iff.mp (Bool.and_eq_true_iff.mp hb).1).1).2
            exact eq_of_beq h3
          obtain ⟨b, hb, hl⟩ := hsw
          cases b with
          | false => exact ps_setC hN hi hx he hb (.inl (g.fnT x))
          | true => exact ps_setLcC g.gd.calm hN hi (hl rfl) hb (hi' _) ok hg (ht _) (he' _) hs hsl
      | SetComp elt gens s2 ep =>
        obtain ⟨d', rfl⟩ : ∃ d', d = d' + 1 := ⟨d - 1, by omega⟩
        exact ps_neverC' fun _ _ => ⟨_, rfl⟩
      | DictComp kx vx gens s2 ep =>
        obtain ⟨d', rfl⟩ : ∃ d', d = d' + 1 := ⟨d - 1, by omega⟩
        have hl := dc_ok (cls := cls) g.gd (fun g e => compE_ok d' g e) (kx := kx) (vx := vx) (gens := gens) (s2 := s2) (p := ep)
        generalize compE G N (d' + 1) sc (.DictComp kx vx gens s2 ep) = c at hl he ⊢
        cases hl with
        | never n => exact ps_neverC' fun _ _ => ⟨_, rfl⟩
        | @dc tg iter ifs own t it cs ck ce eg hN' hi' ok hg ht hk' he' hs hsl =>
          subst eg
          have hsw : ∃ b, swapsWith (.DictComp kx vx [⟨tg, iter, ifs, 0⟩] s2 ep) (some (.Name x p)) pos.line X.env = pure b ∧ (b = true → X.env.scope.names.lookup x = some .local) := by
            refine ⟨X.env.blockKind == .function && X.env.kindOf x == some .local && p.line == ep.line && !(s2.names.any fun (n, k) => n == x && (k == .local || k == .cell)), rfl, fun hb => ?_⟩
            have h3 := (Bool.and_eq_true_iff.mp (Bool.and_eq_true_iff.mp (Bool.and_eq_true_iff.mp hb).1).1).2
            exact eq_of_beq h3
          obtain ⟨b, hb, hl⟩ := hsw
          cases b with
          | false => exact ps_setC hN hi hx he hb (.inl (g.fnT x))
          | true => exact ps_setDcC g.gd.fc.wE g.gd.room.units g.gd.calm hN hi (hl rfl) hb (hi' _) ok hg (ht _) (hk' _) (he' _) hs hsl
      | _ => exact absurd rfl hc
theorem tup_asg (g : SGd G N cl fn cls fa F k X sc) {d : Nat} {ts : List Expr} {c : Nat} {p pos : Pos} {e : Expr} {j : Nat} (hw : swappedStores [.Tuple ts c p] e X.env = pure none) : PS X (.Assign [.Tuple ts c p] e pos) (cS X.K cl fn (denS cls (kn cls F depthCode) (ks cls F j) (match compTg N sc 5 (.Tuple ts c p) with
      | some t => .asg t (compE G N d sc e)
      | none => .never 62))) := by
  cases h : compTg N sc 5 (.Tuple ts c p) with
  | none => exact ps_neverC' fun _ _ => ⟨_, rfl⟩
  | some t => exact ps_asgC (compE_ok d g.gd e depthCode).1 (tg_ok g.gd 5 _ t h fun i _ x _ => .inl (g.fnT x)) swap_tup hw rfl
theorem asg_ok (g : SGd G N cl fn cls fa F k X sc) {d : Nat} (hd : 0 < d) {t e : Expr} {pos : Pos} {j : Nat} : PS X (.Assign [t] e pos) (cS X.K cl fn (denS cls (kn cls F depthCode) (ks cls F j) (compAsg G N sc (compE G N d sc) t e))) := by
  cases t with
  | Name x p => exact asg_name g hd
  | Tuple ts c p =>
    by_cases he : ∃ vs c2 p2, e = .Tuple vs c2 p2
    · obtain ⟨vs, c2, p2, rfl⟩ := he
      show PS X _ (cS X.K cl fn (denS cls (kn cls F depthCode) (ks cls F j) (match parHow sc ts vs with
        | some true => match parOf N sc ts with
          | some is => match anyStar vs with
            | false => .par is (vs.map (compE G N d sc))
            | true => .never 61
          | none => .never 61
        | some false => match compTg N sc 5 (.Tuple ts c p) with
          | some t => .asg t (compE G N d sc (.Tuple vs c2 p2))
          | none => .never 61
        | none => .never 61)))
      cases h : parHow sc ts vs with
      | none => exact ps_neverC' fun _ _ => ⟨_, rfl⟩
      | some b =>
        have hw := parHow_ok (k := c) (k2 := c2) (p := p) (p2 := p2) g.gd.scE g.blk h
        cases b with
        | false =>
          rw [if_neg (by simp)] at hw
          show PS X _ (cS X.K cl fn (denS cls (kn cls F depthCode) (ks cls F j) (match compTg N sc 5 (.Tuple ts c p) with
            | some t => .asg t (compE G N d sc (.Tuple vs c2 p2))
            | none => .never 61)))
          cases h2 : compTg N sc 5 (.Tuple ts c p) with
          | none => exact ps_neverC' fun _ _ => ⟨_, rfl⟩
          | some t => exact ps_asgC (compE_ok d g.gd _ depthCode).1 (tg_ok g.gd 5 _ t h2 fun i _ x _ => .inl (g.fnT x)) swap_tup hw rfl
        | true =>
          show PS X _ (cS X.K cl fn (denS cls (kn cls F depthCode) (ks cls F j) (match parOf N sc ts with
            | some is => match anyStar vs with
              | false => .par is (vs.map (compE G N d sc))
              | true => .never 61
            | none => .never 61)))
          cases h2 : parOf N sc ts with
          | none => exact ps_neverC' fun _ _ => ⟨_, rfl⟩
          | some is =>
            cases h3 : anyStar vs with
            | true => exact ps_neverC' fun _ _ => ⟨_, rfl⟩
            | false => exact ps_parC g.gd.calm (by rw [g.gd.nE]; exact g.gd.nd) g.blk (by rw [g.gd.scE]; exact h) (by rw [g.gd.nE, g.gd.scE]; exact h2) (pa_mapC h3 fun e _ => compE_ok d g.gd e) (by simp)
    · have hw : swappedStores [.Tuple ts c p] e X.env = pure none := by
        cases e <;> first | rfl | exact absurd ⟨_, _, _, rfl⟩ he
      have h := tup_asg (cls := cls) (d := d) (pos := pos) (j := j) g hw
      cases e <;> first | exact h | exact absurd ⟨_, _, _, rfl⟩ he
  | Subscript o i p =>
    show PS X _ (cS X.K cl fn (denS cls (kn cls F depthCode) (ks cls F j) (match isSlice i || isStar i || isComp e with
      | false => .setI (compE G N d sc o) (compE G N d sc i) (compE G N d sc e)
      | true => .never 63)))
    cases h : isSlice i || isStar i || isComp e with
    | true => exact ps_neverC' fun _ _ => ⟨_, rfl⟩
    | false =>
      obtain ⟨h1, h2⟩ := Bool.or_eq_false_iff.mp h
      obtain ⟨h3, h4⟩ := Bool.or_eq_false_iff.mp h1
      exact ps_setIC g.gd.fc.wE g.gd.room.units h3 h2 (compE_ok d g.gd o depthCode).1 (compE_ok d g.gd i depthCode).1 (compE_ok d g.gd e depthCode).1
  | Attribute o x p =>
    show PS X _ (cS X.K cl fn (denS cls (kn cls F depthCode) (ks cls F j) (match isComp e, nameIx G.flds x with
      | false, some i => .setF (compE G N d sc o) i (compE G N d sc e)
      | _, _ => .never 64)))
    cases h : isComp e with
    | true => exact ps_neverC' fun _ _ => ⟨_, rfl⟩
    | false =>
      cases h2 : nameIx G.flds x with
      | none => exact ps_neverC' fun _ _ => ⟨_, rfl⟩
      | some i =>
        obtain ⟨h3, h4⟩ := nameIx_fld g.gd h2
        exact ps_setFC g.gd.fc.md.oks h4 h3 h (compE_ok d g.gd o depthCode).1 (compE_ok d g.gd e depthCode).1
  | _ => exact ps_neverC' fun _ _ => ⟨_, rfl⟩
theorem augOk_of {op : Operator} {o : Bop} (h : bopOf op = some o) : AugOk X cl fn op o ∨ ∀ v w h, ∃ n, augV o v w h = .no n := by
  cases op <;> cases h
  · exact .inl aug_add
  · exact .inl aug_sub
  · exact .inl aug_mul
  · exact .inr fun v w h => ⟨_, rfl⟩
  · exact .inr fun v w h => ⟨_, rfl⟩
  · exact .inr fun v w h => ⟨_, rfl⟩
theorem aug_ok (g : SGd G N cl fn cls fa F k X sc) {d : Nat} {t e : Expr} {op : Operator} {pos : Pos} {j : Nat} : PS X (.AugAssign t op e pos) (cS X.K cl fn (denS cls (kn cls F depthCode) (ks cls F j) (compAug N sc (compE G N d sc) t op e))) := by
  cases t with
  | Name x p =>
    show PS X _ (cS X.K cl fn (denS cls (kn cls F depthCode) (ks cls F j) (match slotW N sc x, bopOf op with
      | some i, some o => .aug i o (compE G N d sc e)
      | _, _ => .never 65)))
    cases h : slotW N sc x with
    | none => exact ps_neverC' fun _ _ => ⟨_, rfl⟩
    | some i =>
      cases h2 : bopOf op with
      | none => exact ps_neverC' fun _ _ => ⟨_, rfl⟩
      | some o =>
        obtain ⟨h3, h4⟩ := slotW_ok h
        rcases augOk_of (X := X) (cl := cl) (fn := fn) h2 with ha | ha
        · exact ps_augC ha (by rw [g.gd.nE]; exact g.gd.nd) (by rw [g.gd.nE]; exact h3) (by rw [g.gd.scE]; exact h4) (compE_ok d g.gd e depthCode).1 (.inl (g.fnT x))
        · refine ps_neverC' fun env h => ?_
          show ∃ n, (match eget env i with
            | some v => match ((kn cls F depthCode).e (compE G N d sc e)).run env h with
              | .ok w h1 => match augV o v w h1 with
                | .ok z h2 => R.ok (Fl.nx (eset env i z)) h2
                | .no n => .no n
              | .no n => .no n
            | none => .no 151) = .no n
          cases eget env i with
          | none => exact ⟨_, rfl⟩
          | some v =>
            cases ((kn cls F depthCode).e (compE G N d sc e)).run env h with
            | no n => exact ⟨_, rfl⟩
            | ok w h1 =>
              obtain ⟨n, en⟩ := ha v w h1
              simp only [en]
              exact ⟨_, rfl⟩
  | _ => exact ps_neverC' fun _ _ => ⟨_, rfl⟩
theorem compSt_ok (g : SGd G N cl fn cls fa F k X sc) {d : Nat} (hd : 0 < d) {f : List Stmt → List S} {j : Nat} (ih : ∀ ss, PSs X ss (cS X.K cl fn (ks cls F j (f ss)))) (s : Stmt) : PS X s (cS X.K cl fn (denS cls (kn cls F depthCode) (ks cls F j) (compSt G N sc (compE G N d sc) f s))) := by
  have ex : ∀ e, OkX cl fn cls F X e (compE G N d sc e) := fun e => compE_ok d g.gd e
  cases s with
  | Assign ts e p =>
    match ts with
    | [] => exact ps_neverC' fun _ _ => ⟨_, rfl⟩
    | [t] => exact asg_ok g hd
    | _ :: _ :: _ => exact ps_neverC' fun _ _ => ⟨_, rfl⟩
  | AugAssign t op e p => exact aug_ok g
  | Expr e p =>
    show PS X _ (cS X.K cl fn (denS cls (kn cls F depthCode) (ks cls F j) (match isDoc e, isComp e with
      | true, _ => .pass
      | false, false => .expr (compE G N d sc e)
      | false, true => .never 58)))
    cases h : isDoc e with
    | true =>
      cases e with
      | Constant c i cp =>
        cases c with
        | str x => exact ps_docC
        | _ => cases h
      | _ => cases h
    | false =>
      cases h2 : isComp e with
      | true => exact ps_neverC' fun _ _ => ⟨_, rfl⟩
      | false => exact ps_exprC (ex e depthCode).1 (swap_no0 h2)
  | Return v p =>
    cases v with
    | none => exact ps_retNC
    | some e => exact ps_retC (ex e depthCode).1
  | If c a b p => exact ps_ifC (ex c depthCode).2 (ih a) (ih b)
  | While c b el p =>
    cases el with
    | nil => exact ps_whileC g.own (ex c depthCode).2 (ih b)
    | cons _ _ => exact ps_neverC' fun _ _ => ⟨_, rfl⟩
  | For tg it b el p =>
    cases el with
    | cons _ _ => exact ps_neverC' fun _ _ => ⟨_, rfl⟩
    | nil =>
      show PS X _ (cS X.K cl fn (denS cls (kn cls F depthCode) (ks cls F j) (match compTg N sc 5 tg, iterOk it with
        | some t, true => .forr t (compIt G sc (compE G N d sc) (isTupE tg) it) (f b)
        | _, _ => .never 68)))
      cases h : compTg N sc 5 tg with
      | none => exact ps_neverC' fun _ _ => ⟨_, rfl⟩
      | some t =>
        cases h2 : iterOk it with
        | false => exact ps_neverC' fun _ _ => ⟨_, rfl⟩
        | true => exact ps_forC g.own g.gd.calm (compIt_okx g.gd ex) (tg_ok g.gd 5 _ t h fun i _ x _ => .inl (g.fnT x)) (ih b) (iterOk_ok h2)
  | Pass p => exact ps_passC
  | Break p => exact ps_brkC
  | Continue p => exact ps_contC
  | _ => exact ps_neverC' fun _ _ => ⟨_, rfl⟩
theorem ks_never {n : Nat} {c : S} (hc : ∀ j env h, ∃ m, (denS cls (kn cls F depthCode) (ks cls F j) c).run env h = .no m) (j : Nat) (env : Env) (h : Hh) : ∃ m, (ks cls F j [c]).run env h = .no m := by
  cases j with
  | zero => exact ⟨_, rfl⟩
  | succ j =>
    obtain ⟨m, e⟩ := hc j env h
    refine ⟨m, ?_⟩
    show (match (denS cls (kn cls F depthCode) (ks cls F j) c).run env h with
      | .ok f h1 => match f with
        | .nx e1 => (denSs (denS cls (kn cls F depthCode) (ks cls F j)) []).run e1 h1
        | f => .ok f h1
      | .no n => .no n) = _
    rw [e]
/-- what pickOf saw -/
theorem fnCode_ok {f : Expr → C} {x : Str} {args : List Expr} {a : C} (h : fnCode G f x args = some a) : ∃ gi fi ar, G.fns[gi]? = some fi ∧ fi.at_.1 = x ∧ fi.at_.2 = none ∧ cmbIn G gi args.length [] = true ∧ arOf fi.dfl args.length [] 0 fi.ps = some ar ∧ a = .call gi (args.map f) ar := by
  unfold fnCode at h
  cases h1 : findIx (fun fi => strEq fi.at_.1 x && fi.at_.2.isNone) G.fns with
  | none => rw [h1] at h; cases h
  | some gi =>
    rw [h1] at h
    obtain ⟨fi, h2, h3⟩ := findIx_ok h1
    have h : (match G.fns[gi]? with
      | none => none
      | some fi => match cmbIn G gi args.length [] with
        | false => none
        | true => match arOf fi.dfl args.length [] 0 fi.ps with
          | none => none
          | some ar => some (C.call gi (args.map f) ar)) = some a := h
    rw [h2] at h
    obtain ⟨h4, h5⟩ := Bool.and_eq_true_iff.mp h3
    have h : (match cmbIn G gi args.length [] with
      | false => none
      | true => match arOf fi.dfl args.length [] 0 fi.ps with
        | none => none
        | some ar => some (C.call gi (args.map f) ar)) = some a := h
    cases h6 : cmbIn G gi args.length [] with
    | false => rw [h6] at h; cases h
    | true =>
      rw [h6] at h
      have h : (match arOf fi.dfl args.length [] 0 fi.ps with
        | none => none
        | some ar => some (C.call gi (args.map f) ar)) = some a := h
      cases h7 : arOf fi.dfl args.length [] 0 fi.ps with
      | none => rw [h7] at h; cases h
      | some ar =>
        rw [h7] at h
        cases h
        exact ⟨gi, fi, ar, h2, strEq_of h4, Option.isNone_iff_eq_none.mp h5, h6, h7, rfl⟩
/-- .. and what that means -/
theorem fnCode_pe (g : SGd G N cl fn cls fa F k X sc) {d : Nat} {fx c : Str} {p q : Pos} {i : Nat} {e0 : Expr} {es : List Expr} {a : C} (h : fnCode G (compE G N d sc) fx (e0 :: es) = some a) (hN : X.N[i]? = some c) (hv : Vis X.env.scope c) (hdb : (c == ("__debug__" : Str)) = false) (hcd : (c == ("__classdict__" : Str)) = false) (hs : anyStar (e0 :: es) = false) :
    ∃ ad, X.mg fx = some (.ref ad) ∧ (fx == ("__debug__" : Str)) = false ∧ ∀ j, 0 < j → PE X (.Call (.Name c p) (e0 :: es) [] q) (fun σ H Q => σ[i]? = some (some (.ref ad)) ∧ cE X.K cl fn ((kn cls F j).e a) σ H Q) := by
  obtain ⟨gi, fi, ar, h2, rfl, h5, h6, h7, rfl⟩ := fnCode_ok h
  obtain ⟨fd, q1, q2, q3, q4⟩ := g.gd.fc.fns gi fi h2
  obtain ⟨m1, m2⟩ := q3 h5
  refine ⟨_, m1, m2, fun j hj => ?_⟩
  obtain ⟨j, rfl⟩ : ∃ j', j = j' + 1 := ⟨j - 1, by omega⟩
  have ih : ∀ e, OkX cl fn cls F X e (compE G N d sc e) := fun e => fun j => compE_ok (cls := cls) d g.gd e j
  exact pe_callL q1 (g.gd.room.mono (Nat.le_succ k)) hN hv q2.1 (q4 _ _ _ h6 h7) (arOf_len h7) hs (pa_mapC hs fun e _ => ih e) (by simp) hdb hcd
theorem pick_ok (g : SGd G N cl fn cls fa F k X sc) {d : Nat} {s : Stmt} {r : List Stmt} {P : S} (h : pickOf G N sc (compE G N d sc) s r = some P) (j : Nat) : PSs X (s :: r) (cS X.K cl fn (denSs (denS cls (kn cls F depthCode) (ks cls F j)) [P])) := by
  unfold pickOf at h
  split at h
  · rename_i c p t x px y py pi pos c' p' a0 args q q'
    cases h1 : strEq c c' && (isGl sc x && (isGl sc y && !anyStar (a0 :: args))) with
    | false => rw [h1] at h; cases h
    | true =>
      rw [h1] at h
      obtain ⟨e1, y1⟩ := Bool.and_eq_true_iff.mp h1
      obtain ⟨e2, y2⟩ := Bool.and_eq_true_iff.mp y1
      obtain ⟨e3, y3⟩ := Bool.and_eq_true_iff.mp y2
      obtain rfl := strEq_of e1
      have hs : anyStar (a0 :: args) = false := by
        cases q0 : anyStar (a0 :: args) with
        | false => rfl
        | true => rw [q0] at y3; cases y3
      cases h2 : slotR N sc c with
      | none => rw [h2] at h; cases h
      | some i' =>
        rw [h2] at h
        cases h3 : slotW N sc c with
        | none => rw [h3] at h; cases h
        | some i =>
          rw [h3] at h
          have h : (match Nat.beq i i', fnCode G (compE G N d sc) x (a0 :: args), fnCode G (compE G N d sc) y (a0 :: args) with
            | true, some a, some b => some (S.pick (compE G N d sc t) i a b)
            | _, _, _ => none) = some P := h
          cases h5 : fnCode G (compE G N d sc) x (a0 :: args) with
          | none => rw [h5] at h; cases h4 : Nat.beq i i' <;> rw [h4] at h <;> cases h
          | some a =>
            cases h6 : fnCode G (compE G N d sc) y (a0 :: args) with
            | none => rw [h5, h6] at h; cases h4 : Nat.beq i i' <;> rw [h4] at h <;> cases h
            | some b =>
              rw [h5, h6] at h
              cases h4 : Nat.beq i i' with
              | false => rw [h4] at h; cases h
              | true =>
                rw [h4] at h
                cases h
                obtain rfl := Nat.eq_of_beq_eq_true h4
                obtain ⟨r1, r2, r3, r4⟩ := slotR_ok h2
                obtain ⟨w1, w2⟩ := slotW_ok h3
                have hN : X.N.Nodup := by rw [g.gd.nE]; exact g.gd.nd
                have hi : X.N[i]? = some c := by rw [g.gd.nE]; exact r1
                have hv : Vis X.env.scope c := by rw [g.gd.scE]; exact r2
                have hx : Loc X.env.scope c := by rw [g.gd.scE]; exact w2
                obtain ⟨f1, m1, d1, k1⟩ := fnCode_pe (p := p') (q := q) g h5 hi hv r3 r4 hs
                obtain ⟨f2, m2, d2, k2⟩ := fnCode_pe (p := p') (q := q) g h6 hi hv r3 r4 hs
                have hp := ps_pick (p := p) (px := px) (py := py) (pi := pi) (pos := pos) (q' := q') hN hi hx ((compE_ok (cls := cls) d g.gd t depthCode).2) (isGl_ok (by rw [g.gd.scE]; exact e2)) m1 d1 (isGl_ok (by rw [g.gd.scE]; exact e3)) m2 d2 (k1 depthCode (by decide)) (k2 depthCode (by decide)) (.inl (g.fnT c))
                refine hp.of fun D σ H ⟨m, env, h, e, r, k⟩ => ⟨m, env, h, e, r, ?_⟩
                have k : OkS X.K cl fn (match sPick ((kn cls F depthCode).t (compE G N d sc t)) i ((kn cls F depthCode).e a) ((kn cls F depthCode).e b) env h with
                  | .ok f h1 => match f with
                    | .nx e1 => .ok (.nx e1) h1
                    | f => .ok f h1
                  | .no n => .no n) m H D := k
                show OkS X.K cl fn (sPick ((kn cls F depthCode).t (compE G N d sc t)) i ((kn cls F depthCode).e a) ((kn cls F depthCode).e b) env h) m H D
                cases z : sPick ((kn cls F depthCode).t (compE G N d sc t)) i ((kn cls F depthCode).e a) ((kn cls F depthCode).e b) env h with
                | no n => rw [z] at k; exact k
                | ok f h1 =>
                  rw [z] at k
                  cases f <;> exact k
  · cases h
theorem compSs_ok (g : SGd G N cl fn cls fa F k X sc) : ∀ (d : Nat) (ss : List Stmt) (j : Nat), PSs X ss (cS X.K cl fn (ks cls F j (compSs G N d sc ss)))
  | 0, ss, j => pss_neverC (ks_never (n := 0) (c := .never 70) (fun _ _ _ => ⟨_, rfl⟩) j)
  | d + 1, ss, 0 => pss_neverC fun _ _ => ⟨_, rfl⟩
  | d + 1, ss, j + 1 => by
    have ih : ∀ ss, PSs X ss (cS X.K cl fn (ks cls F j (compSs G N d sc ss))) := fun ss => compSs_ok g d ss j
    show PSs X ss (cS X.K cl fn (denSs (denS cls (kn cls F depthCode) (ks cls F j)) (compSL G N sc (compE G N depthText sc) (compSt G N sc (compE G N depthText sc) (compSs G N d sc)) ss)))
    induction ss with
    | nil => exact pss_nilC
    | cons s ss ih2 =>
      show PSs X (s :: ss) (cS X.K cl fn (denSs (denS cls (kn cls F depthCode) (ks cls F j)) (match pickOf G N sc (compE G N depthText sc) s ss with
        | some p => [p]
        | none => compSt G N sc (compE G N depthText sc) (compSs G N d sc) s :: compSL G N sc (compE G N depthText sc) (compSt G N sc (compE G N depthText sc) (compSs G N d sc)) ss)))
      cases hp : pickOf G N sc (compE G N depthText sc) s ss with
      | none => exact pss_consC (compSt_ok g (by decide) ih s) ih2
      | some P => exact pick_ok g hp j
end
end Ev

set_option Elab.async false
set_option linter.all false
set_option maxRecDepth 100000
/-! Ev22: the functions of a text, by the depth of their calls. -/
namespace Ev
open PySem PySem.Spec PyProof.Rows L2

/-- what is known of the text -/
structure Text (G : GI) (prc : PrC) (P : Program) (w : World) (cl : Nat → Addr) (fn : Nm) (fa : Nat → Addr) (K : PySem.W.Frag) (mg : Str → Option Value) (base : Heap) : Prop where
  md : Mdl G cl fn prc.cls fa K mg
  wE : fn.w = w
  fns : ∀ g fi, G.fns[g]? = some fi → ∃ (fd : FuncData) (x qual : Str) (params : Arguments) (body : List Stmt) (scope : Scope) (dvs : List V) (kws : List (Str × V)) (N : List Str) (d : Nat),
    FunD K x qual params body scope dvs kws (fa g) fd ∧ FnScope N fi.ps scope ∧ fnAt prc.fns g = some ⟨N.length, compSs G N d scope body⟩ ∧
    (fi.at_.2 = none → mg fi.at_.1 = some (.ref (fa g)) ∧ (fi.at_.1 == ("__debug__" : Str)) = false) ∧
    ∀ n ks ar, cmbIn G g n ks = true → arOf fi.dfl n ks 0 fi.ps = some ar → BnOk K fd fi.ps n ks ar
section
variable {G : GI} {prc : PrC} {P : Program} {w : World} {K : PySem.W.Frag} {mg : Str → Option Value} {base : Heap} {cl : Nat → Addr} {fn : Nm} {fa : Nat → Addr}
theorem _root_.L2.FunD.look {K : PySem.W.Frag} {x qual : Str} {params : Arguments} {body : List Stmt} {scope : Scope} {dvs : List V} {kws : List (Str × V)} {f : Addr} {fd : FuncData} (F : FunD K x qual params body scope dvs kws f fd) : ∃ oc od osl, K.lookup f = some ⟨oc, od, .func fd, osl⟩ := by
  obtain ⟨oc, od, dV, kV, doc, pm, an, cdv, ct, osl, rfl, lk, _⟩ := F.ex
  exact ⟨oc, od, osl, lk⟩
theorem nones_ok {m : List Addr} {H : Hp} : ∀ n : Nat, EnvR K m H (nones n) (List.replicate n none)
  | 0 => .nil
  | n + 1 => .cons trivial (nones_ok n)
theorem mkEnv_nil : ∀ n : Nat, mkEnv n [] = nones n
  | 0 => rfl
  | n + 1 => by
    show none :: mkEnv n [] = none :: nones n
    rw [mkEnv_nil n]
theorem mkEnv_ok {m : List Addr} {H : Hp} : ∀ {n : Nat} {ps : List PV} {vs : List V}, VRs K m H ps vs → vs.length ≤ n → EnvR K m H (mkEnv n ps) (vs.map some ++ List.replicate (n - vs.length) none)
  | n, _, _, .nil, _ => by
    rw [mkEnv_nil]
    exact nones_ok n
  | 0, _, _, .cons _ _, h => by
    rw [List.length_cons] at h
    omega
  | n + 1, _, _, .cons (p := p) (ps := ps) (v := v) (vs := vs) r t, h => by
    rw [List.length_cons] at h
    show EnvR K m H (some p :: mkEnv n ps) (some v :: (vs.map some ++ List.replicate (n + 1 - (vs.length + 1)) none))
    rw [Nat.add_sub_add_right]
    exact .cons r (mkEnv_ok t (by omega))
theorem end_ok {m : List Addr} {H : Hp} {r : R Fl} {Q : VK} (k : OkE K cl fn (endFn r) m H Q) : OkS K cl fn r m H { nx := fun _ H' => Q .non H', rt := Q } := by
  cases r with
  | no n => exact k
  | ok f h =>
    cases f with
    | rt v => exact fun m' H' g r' x q => k m' H' x g r' q
    | nx e => exact fun m' H' g r' σ q => k m' H' .non g r' .non
    | bk e => exact k.elim
    | ct e => exact k.elim
theorem text_ok (T : Text G prc P w cl fn fa K mg base) : ∀ L : Nat, Fcts G cl fn prc.cls fa (run prc L) P w K mg base (2 * L)
  | 0 => ⟨T.md, T.wE, fun g fi e => by
      obtain ⟨fd, x, qual, params, body, scope, dvs, kws, N, d, F, S, hp, hm, hb⟩ := T.fns g fi e
      exact ⟨fd, ⟨fun vs H Q E h => h.1, fun A outer s H args us vs Q E _ _ _ _ ⟨_, m, pvs, h, _, _, k⟩ => (show False from k).elim⟩, ⟨F.kp, F.look⟩, hm, hb⟩⟩
  | L + 1 => ⟨T.md, T.wE, fun g fi e => by
      obtain ⟨fd, x, qual, params, body, scope, dvs, kws, N, d, F, S, hp, hm, hb⟩ := T.fns g fi e
      refine ⟨fd, ?_, ⟨F.kp, F.look⟩, hm, hb⟩
      have ih : Fcts G cl fn prc.cls fa (run prc L) P w K mg base (2 * L) := text_ok T L
      have hok : FnOk P w K mg base (L2.CX P w) (2 * L + 1 + 1) (fa g) fd fi.ps (spOf K cl fn (run prc (L + 1) g) fi.ps.length) := by
        refine F.ok S (fun vs H Q E h => h.1) fun cdv A outer s H vs Q E hr ⟨hl, m, pvs, h, q, r, k⟩ => ?_
        have gd : SGd G N cl fn prc.cls fa (run prc L) (2 * L) (cxOf (L2.CX P w) P w K mg base N qual scope (fa g) cdv A outer s H E) scope := ⟨⟨ih, rfl, S.kind, rfl, S.nd, rfl, hr.mono (by omega)⟩, fun _ => rfl, passes_of rfl⟩
        refine ⟨_, compSs_ok (cls := prc.cls) gd d body depthStmt, m, mkEnv N.length pvs, h, ?_, r, end_ok ?_⟩
        · refine mkEnv_ok q ?_
          have := congrArg List.length S.pre
          rw [List.length_take] at this
          omega
        · have e : run prc (L + 1) g pvs h = endFn ((ks prc.cls (run prc L) depthStmt (compSs G N d scope body)).run (mkEnv N.length pvs) h) := by
            show (denF prc.cls (run prc L) (fnAt prc.fns g)).run pvs h = _
            rw [hp]; rfl
          rw [e] at k
          exact k
      exact hok⟩
end
end Ev

set_option Elab.async false
set_option linter.all false
set_option maxRecDepth 100000
/-! Ev23: the head's facts. -/
namespace Ev
open PySem PySem.Spec PyProof.Rows L2

/-- a constant as it stands in the module -/
def pvBs (f : PV → Value → Bool) : List PV → List Value → Bool
  | [], [] => true
  | p :: ps, u :: us => f p u && pvBs f ps us
  | _, _ => false
def pvB (K : PySem.W.Frag) : Nat → PV → Value → Bool
  | 0, _, _ => false
  | d + 1, p, u => match p with
    | .non => match u with
      | .none => true
      | _ => false
    | .bl b => match u with
      | .bool c => b == c
      | _ => false
    | .int i => match u with
      | .int j _ => decide (i = j)
      | _ => false
    | .str x => match u with
      | .str y _ => decide (x = y)
      | _ => false
    | .tup xs => match u with
      | .ref a => match K.lookup a with
        | some ⟨.type c, none, .seq its _, _⟩ => decide (c = "tuple") && (decide (its.size ≤ sizeLine) && pvBs (pvB K d) xs its.toList)
        | _ => false
      | _ => false
    | _ => false
def CoK (K : PySem.W.Frag) (p : PV) (u : Value) : Prop := ∃ v, RelV v u ∧ (∀ m H, VR K m H p v) ∧ ∀ xs, p = .tup xs → ∃ a o, v = .ref a ∧ K.lookup a = some o ∧ o.cls = .type "tuple" ∧ o.dict = none
theorem pvBs_ok {K : PySem.W.Frag} {f : PV → Value → Bool} (hf : ∀ p u, f p u = true → CoK K p u) : ∀ {ps : List PV} {us : List Value}, pvBs f ps us = true → ∃ vs, Vals vs us ∧ ∀ m H, VRs K m H ps vs
  | [], [], _ => ⟨[], .nil, fun _ _ => .nil⟩
  | [], _ :: _, h => by cases h
  | _ :: _, [], h => by cases h
  | p :: ps, u :: us, h => by
    obtain ⟨h1, h2⟩ := Bool.and_eq_true_iff.mp (show (f p u && pvBs f ps us) = true from h)
    obtain ⟨v, r1, r2, _⟩ := hf p u h1
    obtain ⟨vs, r3, r4⟩ := pvBs_ok hf h2
    exact ⟨v :: vs, .cons r1 r3, fun m H => .cons (r2 m H) (r4 m H)⟩
theorem pvB_ok {K : PySem.W.Frag} : ∀ (d : Nat) (p : PV) (u : Value), pvB K d p u = true → CoK K p u
  | 0, _, _, h => by cases h
  | d + 1, p, u, h => by
    cases p with
    | non =>
      cases u with
      | none => exact ⟨.non, rfl, fun _ _ => .non, fun xs e => by cases e⟩
      | _ => cases h
    | bl b =>
      cases u with
      | bool c =>
        have e : b = c := eq_of_beq (show (b == c) = true from h)
        subst e
        exact ⟨.bl b, rfl, fun _ _ => .bl b, fun xs e => by cases e⟩
      | _ => cases h
    | int i =>
      cases u with
      | int j t =>
        have e : i = j := of_decide_eq_true h
        subst e
        exact ⟨.int i, ⟨t, rfl⟩, fun _ _ => .int i, fun xs e => by cases e⟩
      | _ => cases h
    | str x =>
      cases u with
      | str y t =>
        have e : x = y := of_decide_eq_true h
        subst e
        exact ⟨.str x, ⟨t, rfl⟩, fun _ _ => .str x, fun xs e => by cases e⟩
      | _ => cases h
    | tup xs =>
      cases u with
      | ref a =>
        have h : (match K.lookup a with
          | some ⟨.type c, none, .seq its _, _⟩ => decide (c = "tuple") && (decide (its.size ≤ sizeLine) && pvBs (pvB K d) xs its.toList)
          | _ => false) = true := h
        cases q : K.lookup a with
        | none => rw [q] at h; cases h
        | some o =>
          obtain ⟨oc, od, dt, osl⟩ := o
          rw [q] at h
          cases oc with
          | type c =>
            cases od with
            | none =>
              cases dt with
              | seq its n =>
                obtain ⟨h1, h2⟩ := Bool.and_eq_true_iff.mp (show (decide (c = "tuple") && (decide (its.size ≤ sizeLine) && pvBs (pvB K d) xs its.toList)) = true from h)
                obtain ⟨h3, h4⟩ := Bool.and_eq_true_iff.mp h2
                have ec : c = "tuple" := of_decide_eq_true h1
                subst ec
                obtain ⟨vs, r1, r2⟩ := pvBs_ok (pvB_ok d) h4
                exact ⟨.ref a, rfl, fun m H => .tup (.inr ⟨_, its, n, q, rfl, rfl, of_decide_eq_true h3, r1⟩) (r2 m H), fun xs _ => ⟨a, _, rfl, q, rfl, rfl⟩⟩
              | _ => cases h
            | some b => cases dt <;> cases h
          | _ => cases od <;> cases dt <;> cases h
      | _ => cases h
    | _ => cases h
def conB (K : PySem.W.Frag) (q : Str × PV) : Bool := match PySem.W.nsIn K mainGlobals q.1 with
  | some (some u) => pvB K 9 q.2 u && !(q.1 == ("__debug__" : Str))
  | _ => false
/-- one function of the text: where it stands, its names by slot, its parameters, its defaults -/
structure FRow where
  d : He.DefD
  N : List Str
  ps : List Str
  dfl : List (Str × PV)
def FRow.fi (r : FRow) : FInfo := ⟨r.d.at_, r.ps, r.dfl⟩
def FRow.gloB (K : PySem.W.Frag) (r : FRow) : Bool := match r.d.at_.2 with
  | none => (He.Fa.glo r.d.at_.1).ok K && !(r.d.at_.1 == ("__debug__" : Str))
  | some _ => true
/-- where the functions stand, the classes -/
def faR (rows : List FRow) (K : PySem.W.Frag) (g : Nat) : Addr := match rows[g]? with
  | some r => He.fAd K r.d.at_
  | none => 0
def clR (G : GI) (K : PySem.W.Frag) (c : Nat) : Addr := match G.cls[c]? with
  | some q => He.ga K q.1
  | none => 0
def nmR (l : List Str) (h : l.Nodup) (w : World) : Nm where
  w := w
  f := fun i => l.getD i ""
  n := l.length
  inj := fun i j hi hj e => by
    rw [List.getD_eq_getElem?_getD, List.getD_eq_getElem?_getD, List.getElem?_eq_getElem hi, List.getElem?_eq_getElem hj] at e
    exact (List.getElem_inj h).mp e
/-- what is looked at of a class -/
def iniB (rows : List FRow) (K : PySem.W.Frag) (x : Str) (g : Option Nat) : Bool := match g with
  | none => true
  | some g => (He.Fa.mkr x).ok K && decide (He.ma K (He.ga K x) "__init__" = faR rows K g)
def mthB (G : GI) (rows : List FRow) (K : PySem.W.Frag) (x : Str) (p : Nat × Nat) : Bool := match G.flds[p.1]? with
  | some m => (He.Fa.meth x m).ok K && decide (He.ma K (He.ga K x) m = faR rows K p.2)
  | none => false
def noaB (G : GI) (K : PySem.W.Frag) (x : Str) (f : Nat) : Bool := match G.flds[f]? with
  | some m => (He.Fa.noat x m).ok K
  | none => false
def clsB (G : GI) (rows : List FRow) (K : PySem.W.Frag) (q : Str × ClsC) : Bool :=
  ((He.Fa.glo q.1).ok K && (!(q.1 == ("__debug__" : Str)) && (He.Fa.cls q.1).ok K)) && (iniB rows K q.1 q.2.init && (q.2.mts.all (mthB G rows K q.1) && q.2.flds.all (noaB G K q.1)))
/-- the facts that are looked at -/
def factB (G : GI) (rows : List FRow) (K : PySem.W.Frag) : Bool := rows.all (FRow.gloB K) && (((G.blts.all fun x => (He.Fa.free x).ok K) && G.cons.all (conB K)) && G.cls.all (clsB G rows K))
abbrev AlV : Type := He.AlD × Bool
def obsV (G : GI) (rows : List FRow) (K : PySem.W.Frag) : AlV := (He.obsD [] (rows.map FRow.d) K, factB G rows K)
def valV (rows : List FRow) : AlV := (He.valD (rows.map FRow.d), true)
/-- what an object names, as far as the facts ask -/
def refsC (o : Obj) : List Addr := match o.data with
  | .seq its _ => its.toList.flatMap He.refV
  | .dict es _ => es.toList.flatMap fun e => He.refV e.val
  | .func fd => He.refV fd.code ++ (He.refV fd.defaults ++ He.refV fd.kwdefaults)
  | .cls cd => [cd.ns]
  | _ => []
def lvlC (g : Addr → Option Obj) (as : List Addr) : List Addr := as.flatMap fun a => match g a with
  | some o => refsC o
  | none => []
/-- what the module's names reach, level by level -/
def colC (g : Addr → Option Obj) : Nat → List Addr → List Addr
  | 0, as => as
  | n + 1, as => as ++ colC g n (lvlC g as)
def obsVG (n : Nat) (G : GI) (rows : List FRow) (g : Addr → Option Obj) : AlV := obsV G rows (He.frG g (colC g n [mainGlobals]))
def hookV (n : Nat) (G : GI) (rows : List FRow) : PySem.W.Hook where
  α := AlV
  obs := fun s => obsVG n G rows s.heap.get?
  val := fun _ => valV rows
  says := fun _ h => ∃ K : PySem.W.Frag, K.In h ∧ obsV G rows K = valV rows
  of := fun _ _ e => ⟨_, He.frG_in, e⟩
  keeps := fun _ _ _ ⟨K, hK, c⟩ k => ⟨K, PySem.W.Frag.In.keeps hK k, c⟩
theorem obsVG_eq {n : Nat} {G : GI} {rows : List FRow} {g : Addr → Option Obj} {s : Shared} (h : ∀ a, g a = s.heap.get? a) : obsVG n G rows g = (hookV n G rows).obs s := by
  have e : g = s.heap.get? := funext h
  rw [e] <;> rfl
/-- a way of calling binds -/
def BnFor (rows : List FRow) (q : Nat × Nat × List Str) : Prop := ∀ r, rows[q.1]? = some r → ∀ (K : PySem.W.Frag) (f : Addr) (fd : FuncData), FunD K r.d.name r.d.qual r.d.params r.d.body r.d.scope (r.d.dvs K) (r.d.kws K) f fd →
  ∀ ar, arOf r.dfl q.2.1 q.2.2 0 r.ps = some ar → BnOk K fd r.ps q.2.1 q.2.2 ar
theorem fnAt_map {f : FRow → FnC} : ∀ {rows : List FRow} {g : Nat} {r : FRow}, rows[g]? = some r → fnAt (rows.map f) g = some (f r)
  | [], _, _, e => by simp at e
  | r :: rows, 0, _, e => by simp at e; subst e; rfl
  | r :: rows, g + 1, r', e => fnAt_map (rows := rows) (g := g) (by simpa using e)
theorem any_strEq {l : List Str} {x : Str} (h : (l.any fun y => strEq y x) = true) : x ∈ l := by
  obtain ⟨y, h1, h2⟩ := List.any_eq_true.mp h
  rw [← strEq_of h2]; exact h1
theorem natAt_mem {α : Type} {m : Nat} {g : α} : ∀ {l : List (Nat × α)}, natAt m l = some g → (m, g) ∈ l
  | [], h => by cases h
  | (a, b) :: r, h => by
    have h : (match Nat.beq a m with
      | true => some b
      | false => natAt m r) = some g := h
    cases z : Nat.beq a m with
    | true =>
      rw [z] at h
      cases h
      rw [Nat.eq_of_beq_eq_true z]
      exact List.mem_cons_self ..
    | false =>
      rw [z] at h
      exact List.mem_cons_of_mem _ (natAt_mem h)
theorem mdl_of {G : GI} {rows : List FRow} {K : PySem.W.Frag} {mg : Str → Option Value} {h : Heap} {w : World} (X : K.In h) (hG : h.Ns mainGlobals mg) (f2 : (((G.blts.all fun x => (He.Fa.free x).ok K) && G.cons.all (conB K)) && G.cls.all (clsB G rows K)) = true) (hn : G.flds.Nodup) :
    Mdl G (clR G K) (nmR G.flds hn w) (G.cls.map (·.2)) (faR rows K) K mg := by
  obtain ⟨f5, f6⟩ := Bool.and_eq_true_iff.mp f2
  obtain ⟨f3, f4⟩ := Bool.and_eq_true_iff.mp f5
  have one : ∀ c q, G.cls[c]? = some q → clR G K c = He.ga K q.1 ∧ clsB G rows K q = true := fun c q e =>
    ⟨by unfold clR; rw [e], List.all_eq_true.mp f6 q (List.mem_of_getElem? e)⟩
  refine ⟨fun x p e => ?_, fun x e => ?_, fun i x e => ?_, rfl, fun c q e => ?_, fun c q i g e hg => ?_, fun c f hf => ?_⟩
  · have h1 := List.all_eq_true.mp f4 (x, p) (lookS_mem e)
    have h1 : (match PySem.W.nsIn K mainGlobals x with
      | some (some u) => pvB K 9 p u && !(x == ("__debug__" : Str))
      | _ => false) = true := h1
    cases q : PySem.W.nsIn K mainGlobals x with
    | none => rw [q] at h1; cases h1
    | some o =>
      rw [q] at h1
      cases o with
      | none => cases h1
      | some u =>
        obtain ⟨h2, h3⟩ := Bool.and_eq_true_iff.mp (show (pvB K 9 p u && !(x == ("__debug__" : Str))) = true from h1)
        obtain ⟨v, r1, r2, r3⟩ := pvB_ok 9 p u h2
        exact ⟨⟨u, v, PySem.W.mg_of X hG q, r1, r2, r3⟩, by simpa using h3⟩
  · exact He.free_ok X hG (List.all_eq_true.mp f3 x (any_strEq e))
  · obtain ⟨h1, h2⟩ := List.getElem?_eq_some_iff.mp e
    refine ⟨h1, ?_⟩
    show G.flds.getD i "" = x
    rw [List.getD_eq_getElem?_getD, e]; rfl
  · obtain ⟨e1, e2⟩ := one c q e
    obtain ⟨a1, a2⟩ := Bool.and_eq_true_iff.mp e2
    obtain ⟨b1, b2⟩ := Bool.and_eq_true_iff.mp a1
    obtain ⟨b3, b4⟩ := Bool.and_eq_true_iff.mp b2
    obtain ⟨b5, b6⟩ := Bool.and_eq_true_iff.mp a2
    rw [e1]
    refine ⟨He.cls_ok b4, He.glo_ok X hG b1, by simpa using b3, fun g hg => ?_⟩
    have b5 : (match q.2.init with
      | none => true
      | some g => (He.Fa.mkr q.1).ok K && decide (He.ma K (He.ga K q.1) "__init__" = faR rows K g)) = true := b5
    rw [hg] at b5
    obtain ⟨b7, b8⟩ := Bool.and_eq_true_iff.mp (show ((He.Fa.mkr q.1).ok K && decide (He.ma K (He.ga K q.1) "__init__" = faR rows K g)) = true from b5)
    rw [← of_decide_eq_true b8]
    exact He.mkr_ok b7
  · obtain ⟨e1, e2⟩ := one c q e
    obtain ⟨a1, a2⟩ := Bool.and_eq_true_iff.mp e2
    obtain ⟨b5, b6⟩ := Bool.and_eq_true_iff.mp a2
    obtain ⟨b7, b8⟩ := Bool.and_eq_true_iff.mp b6
    have z := List.all_eq_true.mp b7 _ (natAt_mem hg)
    have z : (match G.flds[i]? with
      | some m => (He.Fa.meth q.1 m).ok K && decide (He.ma K (He.ga K q.1) m = faR rows K g)
      | none => false) = true := z
    rw [e1]
    cases hm : G.flds[i]? with
    | none => rw [hm] at z; cases z
    | some m =>
      rw [hm] at z
      obtain ⟨z1, z2⟩ := Bool.and_eq_true_iff.mp (show ((He.Fa.meth q.1 m).ok K && decide (He.ma K (He.ga K q.1) m = faR rows K g)) = true from z)
      have hf : (nmR G.flds hn w).f i = m := by
        show G.flds.getD i "" = m
        rw [List.getD_eq_getElem?_getD, hm]; rfl
      rw [hf, ← of_decide_eq_true z2]
      exact ⟨(List.getElem?_eq_some_iff.mp hm).1, He.meth_ok z1⟩
  · have hf : (match clsAt (G.cls.map (·.2)) c with
      | some cl => cl.flds.any fun g => Nat.beq g f
      | none => false) = true := hf
    cases hc : clsAt (G.cls.map (·.2)) c with
    | none => rw [hc] at hf; cases hf
    | some cc =>
      rw [hc] at hf
      obtain ⟨q, e, rfl⟩ := clsAt_map hc
      obtain ⟨f', m1, m2⟩ := List.any_eq_true.mp hf
      have := Nat.eq_of_beq_eq_true m2
      subst this
      obtain ⟨e1, e2⟩ := one c q e
      obtain ⟨a1, a2⟩ := Bool.and_eq_true_iff.mp e2
      obtain ⟨b5, b6⟩ := Bool.and_eq_true_iff.mp a2
      obtain ⟨b7, b8⟩ := Bool.and_eq_true_iff.mp b6
      have z := List.all_eq_true.mp b8 _ m1
      have z : (match G.flds[f']? with
        | some m => (He.Fa.noat q.1 m).ok K
        | none => false) = true := z
      rw [e1]
      cases hm : G.flds[f']? with
      | none => rw [hm] at z; cases z
      | some m =>
        rw [hm] at z
        have hf : (nmR G.flds hn w).f f' = m := by
          show G.flds.getD f' "" = m
          rw [List.getD_eq_getElem?_getD, hm]; rfl
        rw [hf]
        exact ⟨(List.getElem?_eq_some_iff.mp hm).1, He.noat_ok z⟩
theorem text_of {G : GI} {rows : List FRow} {prc : PrC} {P : Program} {w : World} {K : PySem.W.Frag} {mg : Str → Option Value} {base h : Heap} (X : K.In h) (hG : h.Ns mainGlobals mg) (c : obsV G rows K = valV rows)
    (hg : G.fns = rows.map FRow.fi) (hs : (rows.all fun r => C8.scC r.N r.ps r.d.scope) = true) (hp : prc.fns = rows.map fun r => ⟨r.N.length, compSs G r.N 30 r.d.scope r.d.body⟩) (hc : prc.cls = G.cls.map (·.2)) (hn : G.flds.Nodup) (hb : ∀ q ∈ G.cmb, BnFor rows q) : Text G prc P w (clR G K) (nmR G.flds hn w) (faR rows K) K mg base := by
  have c1 : He.SaysD [] (rows.map FRow.d) K := congrArg (fun z : AlV => z.1) c
  have c2 : factB G rows K = true := congrArg (fun z : AlV => z.2) c
  obtain ⟨f1, f2⟩ := Bool.and_eq_true_iff.mp c2
  refine ⟨by rw [hc]; exact mdl_of X hG f2 hn, rfl, fun g fi e => ?_⟩
  rw [hg, List.getElem?_map] at e
  cases hr : rows[g]? with
  | none => rw [hr] at e; cases e
  | some r =>
    rw [hr] at e
    cases e
    have hm : r ∈ rows := List.mem_of_getElem? hr
    obtain ⟨fd, F⟩ := c1.def_ g (d := r.d) (by rw [List.getElem?_map, hr]; rfl)
    have hfa : faR rows K g = He.fAd K r.d.at_ := by unfold faR; rw [hr]
    rw [hfa]
    refine ⟨fd, _, _, _, _, _, _, _, r.N, 30, F, C8.fnScope_by (List.all_eq_true.mp hs r hm), by rw [hp]; exact fnAt_map hr, fun ha => ?_, fun n ks ar h1 h2 => ?_⟩
    · have h1 := List.all_eq_true.mp f1 r hm
      have ha : r.d.at_.2 = none := ha
      have h1 : (match r.d.at_.2 with
        | none => (He.Fa.glo r.d.at_.1).ok K && !(r.d.at_.1 == ("__debug__" : Str))
        | some _ => true) = true := h1
      rw [ha] at h1
      obtain ⟨h2, h3⟩ := Bool.and_eq_true_iff.mp (show ((He.Fa.glo r.d.at_.1).ok K && !(r.d.at_.1 == ("__debug__" : Str))) = true from h1)
      refine ⟨?_, by simpa [FRow.fi] using h3⟩
      have e2 := He.glo_ok X hG h2
      have e3 : He.fAd K r.d.at_ = He.ga K r.d.at_.1 := by unfold He.fAd; rw [ha]
      rw [e3]
      exact e2
    · unfold cmbIn at h1
      obtain ⟨q, q1, q2⟩ := List.any_eq_true.mp h1
      obtain ⟨q3, q4⟩ := Bool.and_eq_true_iff.mp q2
      obtain ⟨q5, q6⟩ := Bool.and_eq_true_iff.mp q4
      obtain ⟨a, b, l⟩ := q
      obtain rfl : a = g := Nat.eq_of_beq_eq_true q3
      obtain rfl : b = n := Nat.eq_of_beq_eq_true q5
      obtain rfl : l = ks := strsEq_of q6
      exact hb _ q1 r hr K _ fd F ar h2
end Ev

set_option Elab.async false
set_option linter.all false
set_option maxRecDepth 100000
/-! EvHd: the head in parts. -/
noncomputable section
namespace HandSHeadRun
open PySem PySem.W PySem.Calls PyProof.Rows

/-- the run behind the top -/
abbrev runT (r : OpenRow) (M : Nat) (w : World) (os : OsState) : Option SharedT := endF (stepQ (denQ tabQ) r.prog w) M r.prog w os
/-- one thing that is seen of it -/
def PC (r : OpenRow) (M : Nat) (w : World) {β : Type} (f : SharedT → β) (b : β) : Prop := ∀ os : OsState, (runT r M w os).map f = some b
abbrev PA (r : OpenRow) (M : Nat) (w : World) : Prop := PC r M w (fun s => looksF r.prog (boot_heap w.params) s.abs) true
abbrev PB (r : OpenRow) (q : Program) (loose : List PySem.Str) (M : Nat) (w : World) : Prop := PC r M w (fun s => seenQ q loose (importedModules r.prog.main.body) (fun s => xlAt q [] s && recOk r.toRowW.records s) s.abs) (openGood q loose)
theorem PC.two {r : OpenRow} {M : Nat} {w : World} {β γ : Type} {f : SharedT → β × γ} {b : β} {c : γ} (h1 : PC r M w (fun s => (f s).1) b) (h2 : PC r M w (fun s => (f s).2) c) : PC r M w f (b, c) := fun os => by
  have e1 := h1 os
  have e2 := h2 os
  cases z : runT r M w os with
  | none => rw [z] at e1; cases e1
  | some s =>
    rw [z] at e1 e2
    have e1 : (f s).1 = b := Option.some.inj e1
    have e2 : (f s).2 = c := Option.some.inj e2
    show some (f s) = some (b, c)
    rw [← e1, ← e2]
theorem PC.andB {r : OpenRow} {M : Nat} {w : World} {f g : SharedT → Bool} (h1 : PC r M w f true) (h2 : PC r M w g true) : PC r M w (fun s => f s && g s) true := fun os => by
  have e1 := h1 os
  have e2 := h2 os
  cases z : runT r M w os with
  | none => rw [z] at e1; cases e1
  | some s =>
    rw [z] at e1 e2
    have e1 : f s = true := Option.some.inj e1
    have e2 : g s = true := Option.some.inj e2
    show some (f s && g s) = some true
    rw [e1, e2]; rfl
theorem PC.app {r : OpenRow} {M : Nat} {w : World} {β : Type} {f g : SharedT → List β} {a b : List β} (h1 : PC r M w f a) (h2 : PC r M w g b) : PC r M w (fun s => f s ++ g s) (a ++ b) := fun os => by
  have e1 := h1 os
  have e2 := h2 os
  cases z : runT r M w os with
  | none => rw [z] at e1; cases e1
  | some s =>
    rw [z] at e1 e2
    have e1 : f s = a := Option.some.inj e1
    have e2 : g s = b := Option.some.inj e2
    show some (f s ++ g s) = some (a ++ b)
    rw [e1, e2]
theorem PC.congr {r : OpenRow} {M : Nat} {w : World} {β : Type} {f g : SharedT → β} {b : β} (h : PC r M w f b) (e : ∀ s, f s = g s) : PC r M w g b := by
  have : f = g := funext e
  exact this ▸ h
theorem RunEq.of {r : OpenRow} {q : Program} {H : Hook} {ob : SharedT → H.α} {M : Nat} {loose : List PySem.Str} {w : World} (a : PA r M w) (b : PB r q loose M w) (c : PC r M w ob (H.val w)) : RunEq r q H ob M loose w := fun os => by
  have e1 := a os
  have e2 := b os
  have e3 := c os
  show (runT r M w os).map _ = _
  cases z : runT r M w os with
  | none => rw [z] at e1; cases e1
  | some s =>
    rw [z] at e1 e2 e3
    have e1 := Option.some.inj e1
    have e2 := Option.some.inj e2
    have e3 := Option.some.inj e3
    show some _ = some _
    rw [← e3, ← e2, ← e1]
end HandSHeadRun
namespace Ev
open PySem PySem.Spec PyProof.Rows L2
/-- the fragment that the facts are seen in -/
def kOf (s : PySem.W.SharedT) : PySem.W.Frag := He.frG (HandSHeadRun.getT s) (colC (HandSHeadRun.getT s) 5 [mainGlobals])
theorem all_take {α : Type} (p : α → Bool) : ∀ (l : List α) (n : Nat), l.all p = ((l.take n).all p && (l.drop n).all p)
  | l, n => by rw [← List.all_append, List.take_append_drop]
theorem map_take {α β : Type} (f : α → β) (l : List α) (n : Nat) : l.map f = (l.take n).map f ++ (l.drop n).map f := by rw [← List.map_append, List.take_append_drop]
/-- the facts in four parts -/
theorem run_parts {r : PySem.W.OpenRow} {M : Nat} {w : World} {G : GI} {rows : List FRow} {ob : PySem.W.SharedT → AlV} (hob : ∀ s, ob s = obsV G rows (kOf s))
    (h1 : HandSHeadRun.PC r M w (fun s => rows.all fun q => q.d.ok (kOf s)) true) (h2 : HandSHeadRun.PC r M w (fun s => rows.map fun q => He.fnW (kOf s) q.d.at_) (rows.map fun q => q.d.val)) (h3 : HandSHeadRun.PC r M w (fun s => factB G rows (kOf s)) true) : HandSHeadRun.PC r M w ob (valV rows) := by
  refine .two (.two (h1.congr fun s => ?_) (b := true) (c := (rows.map FRow.d).map He.DefD.val) ?_) (h3.congr fun s => by rw [hob]; rfl)
  · rw [hob]
    show rows.all _ = (true && (rows.map FRow.d).all _)
    rw [List.all_map, Bool.true_and]
    rfl
  · rw [List.map_map]
    refine HandSHeadRun.PC.congr h2 fun s => ?_
    rw [hob]
    show _ = (rows.map FRow.d).map _
    rw [List.map_map]
    rfl
end Ev

set_option Elab.async false
set_option linter.all false
set_option maxRecDepth 100000
/-! Ev24: a law's end. -/
namespace Ev
open PySem PySem.Spec PyProof.Rows L2

def isTrue (r : R PV) : Bool := match r with
  | .ok (.bl true) _ => true
  | _ => false
theorem ints_vrs {K : PySem.W.Frag} {m : List Addr} {H : Hp} : ∀ ns : List Int, VRs K m H (ns.map PV.int) (ns.map V.int)
  | [] => .nil
  | n :: ns => .cons (.int n) (ints_vrs ns)
theorem script_sp {K : PySem.W.Frag} {cl : Nat → Addr} {fn : Nm} {F : List PV → Hh → R PV} {H : Hp} {a : Addr} {ns : List Int} {E : XK} (hO : L2.Only H) (hS : SqL K H a (ns.map V.int)) (h : isTrue (F [.fro (ns.map PV.int)] hp0) = true) : spOf K cl fn F 1 [.ref a] H (fun v _ => v = .bl true) E := by
  refine ⟨rfl, [], [.fro (ns.map PV.int)], hp0, .cons (.fro ?_ (ints_vrs ns)) .nil, hr0, ?_⟩
  · rcases hS with (hS | hS) | hS
    · rcases hO a with z | ⟨o, xs, z⟩
      · rw [hS] at z; cases z
      · rw [hS] at z; cases z
    · exact .inl hS
    · exact .inr hS
  · cases z : F [.fro (ns.map PV.int)] hp0 with
    | no n => rw [z] at h; cases h
    | ok v h1 =>
      rw [z] at h
      cases v with
      | bl b =>
        cases b with
        | true => exact fun m' H' x g r q => by cases q; rfl
        | false => cases h
      | _ => cases h
/-- all of a law's facts: F for walk_ofE -/
theorem law_facts {G : GI} {rows : List FRow} {prc : PrC} {P : Program} {w : World} {K : PySem.W.Frag} {mg : Str → Option Value} {h : Heap} (X : K.In h) (hG : h.Ns mainGlobals mg) (c : obsV G rows K = valV rows)
    (hg : G.fns = rows.map FRow.fi) (hs : (rows.all fun r => C8.scC r.N r.ps r.d.scope) = true) (hp : prc.fns = rows.map fun r => ⟨r.N.length, compSs G r.N 30 r.d.scope r.d.body⟩) (hc : prc.cls = G.cls.map (·.2)) (hnd : G.flds.Nodup) (hb : ∀ q ∈ G.cmb, BnFor rows q)
    (g L : Nat) (r : FRow) (hr : rows[g]? = some r) (x : Str) (hps : r.ps = [x]) (hat : r.d.at_ = (("law" : Str), none)) (hdfl : r.d.dfl = [])
    (hbind : ∀ (kV doc pm : Value) (an : Option Addr) (cdv ct u : Value), bindArgs (PySem.W.fnOf r.d.name r.d.qual r.d.params r.d.body r.d.scope .none kV doc pm an cdv ct) ⟨[u], []⟩ = pure [(x, u)])
    {fa : Addr} (hfa : mg ("law" : Str) = some (.ref fa)) (hev : ∀ ns : List Int, ns.length ≤ 63 → isTrue (run prc L g [.fro (ns.map PV.int)] hp0) = true) :
    ∃ (fd : FuncData) (sp : Sp), (∀ (s : Shared) (u : Value), BindsTo s fd ⟨[u], []⟩ [(x, u)]) ∧
      (∀ (H : Hp) (a : Addr) (ns : List Int), ns.length ≤ 63 → L2.Only H → SqL K H a (ns.map V.int) → sp [.ref a] H (fun v _ => v = .bl true) fun _ _ _ => False) ∧
      ∀ base : Heap, K.In base → base.Ns mainGlobals mg → FnOk P w K mg base (L2.CX P w) (2 * L) fa fd [x] sp := by
  have c1 : He.SaysD [] (rows.map FRow.d) K := congrArg (fun z : AlV => z.1) c
  obtain ⟨fd, F⟩ := c1.def_ g (d := r.d) (by rw [List.getElem?_map, hr]; rfl)
  have hd : r.d.dvs K = [] := by unfold He.DefD.dvs; rw [hdfl]; rfl
  rw [hd] at F
  have hfi : G.fns[g]? = some r.fi := by rw [hg, List.getElem?_map, hr]; rfl
  refine ⟨fd, spOf K (clR G K) (nmR G.flds hnd w) (run prc L g) 1, fun s u => ?_, fun H a ns hl hO hS => script_sp hO hS (hev ns hl), fun base Xb Gb => ?_⟩
  · have := F.bindsA (ps := [x]) (fun kV doc pm an cdv ct us hl => match us, hl with | [u], _ => hbind kV doc pm an cdv ct u) s [u] rfl
    exact this
  · have T := text_of (P := P) (w := w) (base := base) X hG c hg hs hp hc hnd hb
    obtain ⟨fd', h1, h2, h3, h4⟩ := (text_ok T L).fns g _ hfi
    have e1 := (h3 (by show r.d.at_.2 = none; rw [hat])).1
    have e1 : mg r.d.at_.1 = some (.ref (faR rows K g)) := e1
    rw [hat] at e1
    have e2 := hfa.symm.trans e1
    have hfa' : faR rows K g = He.fAd K r.d.at_ := by unfold faR; rw [hr]
    have ef : fa = faR rows K g := by cases e2; rfl
    have ef2 : fa = He.fAd K r.d.at_ := ef.trans hfa'
    rw [← ef] at h1 h2
    obtain ⟨oc, od, osl, l1⟩ := h2.2
    obtain ⟨oc', od', osl', l2⟩ := F.look
    rw [← ef2, l1] at l2
    cases l2
    have h1 : FnOk P w K mg base (L2.CX P w) (2 * L) fa fd r.ps (spOf K (clR G K) (nmR G.flds hnd w) (run prc L g) r.ps.length) := h1
    rw [hps] at h1
    exact h1
/-- the law's end, the exceptions' way by the world -/
theorem walkW {ol : PySem.W.OpenLaw} {most k : Nat} {q : Program} {loose : List Str} {XP : (Str → Option Value) → Heap → Prop} {YP : World → Heap → Prop} {d : DefRec} {x : Str}
    (hm : ol.most = some most) (hz : most ≤ sizeLine) (hp : d.params.defaults = []) (room : Room k callerA)
    (facts : ∀ (w : World) (mg : Str → Option Value) (fa : Addr) (h : Heap), YP w h → h.Ns mainGlobals mg → mg d.name = some (.ref fa) →
      ∃ K : PySem.W.Frag, K.In h ∧ ∃ (fd : FuncData) (sp : Sp), (∀ (s : Shared) (u : Value), BindsTo s fd ⟨[u], []⟩ [(x, u)]) ∧
        (∀ (H : Hp) (a : Addr) (ns : List Int), ns.length ≤ most → L2.Only H → SqL K H a (ns.map V.int) → sp [.ref a] H (fun v _ => v = .bl true) fun _ _ _ => False) ∧
        ∀ base : Heap, K.In base → base.Ns mainGlobals mg → FnOk ol.prog w K mg base (L2.CX ol.prog w) k fa fd [x] sp) :
    PySem.W.WalkO q loose XP YP ol.row.toRowW d [] (fun f vs => PySem.call f vs) := by
  refine Att.attach_call hm hp fun w s0 s1 mg mb fa o pm cd doc a vs ns Gr Y ho hd hcd hmg hobj hints hlen hg => ?_
  obtain ⟨K, KX, fd, sp, hb, hsp, hF⟩ := facts w mg fa _ Y Gr.T.g hmg
  have small : ns.length ≤ sizeLine := Nat.le_trans hlen hz
  refine law_call (CX := L2.CX ol.prog w) KX Gr.T.g Gr.T.b Gr.T.builtins Gr.T.nolimit hg hobj hints small room hF hb (fun H o s => hsp H a ns hlen o s) ?_
  rintro H e s' ⟨_, _, _, _, _, _, _, _, _, _, _, _, z⟩
  exact z
end Ev

set_option Elab.async false
set_option linter.all false
set_option maxRecDepth 100000
namespace Ev
open PySem PySem.Spec PyProof.Rows L2
def top (i : Nat) : Stmt := PySem.Challenge.pw_swapframes_k41_ledgers_by_hand.main.body.getD i (.Pass ⟨0, 0, 0, 0⟩)
def row_0 : FRow := ⟨⟨("is_number", none), "is_number", "is_number", defArgs (top 2), defBody (top 2), defScope (top 2), [], []⟩, ["value", "below"], ["value", "below"], []⟩
def row_1 : FRow := ⟨⟨("are_values", none), "are_values", "are_values", defArgs (top 3), defBody (top 3), defScope (top 3), [], []⟩, ["value", "sizes", "part", "size"], ["value", "sizes"], []⟩
def row_2 : FRow := ⟨⟨("is_content", none), "is_content", "is_content", defArgs (top 4), defBody (top 4), defScope (top 4), [], []⟩, ["system", "value"], ["system", "value"], []⟩
def row_3 : FRow := ⟨⟨("changed", none), "changed", "changed", defArgs (top 5), defBody (top 5), defScope (top 5), [], []⟩, ["sizes", "content", "step", "word", "cell", "number", "value"], ["sizes", "content", "step"], []⟩
def row_4 : FRow := ⟨⟨("converted", none), "converted", "converted", defArgs (top 6), defBody (top 6), defScope (top 6), [], []⟩, ["system", "content", "step"], ["system", "content"], []⟩
def row_5 : FRow := ⟨⟨("body_of", none), "body_of", "body_of", defArgs (top 8), defBody (top 8), defScope (top 8), [], [("age", (.str "old"))]⟩, ["system", "function", "age"], ["system", "function", "age"], [("age", (.str "old"))]⟩
def row_6 : FRow := ⟨⟨("onward", none), "onward", "onward", defArgs (top 9), defBody (top 9), defScope (top 9), [], [("age", (.str "old"))]⟩, ["system", "function", "node", "content", "age", "step", "sizes", "cell", "value"], ["system", "function", "node", "content", "age"], [("age", (.str "old"))]⟩
def row_7 : FRow := ⟨⟨("is_skip", none), "is_skip", "is_skip", defArgs (top 15), defBody (top 15), defScope (top 15), [], []⟩, ["value"], ["value"], []⟩
def row_8 : FRow := ⟨⟨("is_choice", none), "is_choice", "is_choice", defArgs (top 16), defBody (top 16), defScope (top 16), [], []⟩, ["value"], ["value"], []⟩
def row_9 : FRow := ⟨⟨("is_way", none), "is_way", "is_way", defArgs (top 17), defBody (top 17), defScope (top 17), [], []⟩, ["value", "move"], ["value"], []⟩
def row_10 : FRow := ⟨⟨("are_moves", none), "are_moves", "are_moves", defArgs (top 18), defBody (top 18), defScope (top 18), [], []⟩, ["value", "move", "is_word"], ["value"], []⟩
def row_11 : FRow := ⟨⟨("is_age", none), "is_age", "is_age", defArgs (top 19), defBody (top 19), defScope (top 19), [], []⟩, ["value"], ["value"], []⟩
def row_12 : FRow := ⟨⟨("is_ledger", none), "is_ledger", "is_ledger", defArgs (top 20), defBody (top 20), defScope (top 20), [], []⟩, ["system", "value", "row"], ["system", "value"], []⟩
def row_13 : FRow := ⟨⟨("led", none), "led", "led", defArgs (top 21), defBody (top 21), defScope (top 21), [], []⟩, ["sizes", "node", "content", "choice", "word", "fits"], ["sizes", "node", "content", "choice"], []⟩
def row_14 : FRow := ⟨⟨("skipped", none), "skipped", "skipped", defArgs (top 22), defBody (top 22), defScope (top 22), [], []⟩, ["ledger", "finds", "age", "node", "content", "move"], ["ledger", "finds", "age", "node", "content", "move"], []⟩
def row_15 : FRow := ⟨⟨("way_on", none), "way_on", "way_on", defArgs (top 23), defBody (top 23), defScope (top 23), [], []⟩, ["system", "ledger", "finds", "spot", "way", "age", "era", "function", "at", "content", "body", "index", "move", "found"], ["system", "ledger", "finds", "spot", "way"], []⟩
def row_16 : FRow := ⟨⟨("ledger_ends", none), "ledger_ends", "ledger_ends", defArgs (top 24), defBody (top 24), defScope (top 24), [], []⟩, ["system", "ledger", "finds", "j", "age", "function", "content", "way", "at", "end", "index"], ["system", "ledger"], []⟩
def row_17 : FRow := ⟨⟨("Walk", some "__init__"), "__init__", "Walk.__init__", defArgs (L2.inClass (top 25) 0), defBody (L2.inClass (top 25) 0), defScope (L2.inClass (top 25) 0), [], []⟩, ["self", "system", "ledger", "cells", "frames", "has_swapped"], ["self", "system", "ledger", "cells", "frames", "has_swapped"], []⟩
def row_18 : FRow := ⟨⟨("Walk", some "top_node"), "top_node", "Walk.top_node", defArgs (L2.inClass (top 25) 1), defBody (L2.inClass (top 25) 1), defScope (L2.inClass (top 25) 1), [], []⟩, ["self", "function", "age", "at"], ["self"], []⟩
def row_19 : FRow := ⟨⟨("Walk", some "era"), "era", "Walk.era", defArgs (L2.inClass (top 25) 2), defBody (L2.inClass (top 25) 2), defScope (L2.inClass (top 25) 2), [], []⟩, ["self"], ["self"], []⟩
def row_20 : FRow := ⟨⟨("Walk", some "make"), "make", "Walk.make", defArgs (L2.inClass (top 25) 3), defBody (L2.inClass (top 25) 3), defScope (L2.inClass (top 25) 3), [], []⟩, ["self", "move", "node", "found", "function", "age", "at"], ["self", "move"], []⟩
def row_21 : FRow := ⟨⟨("Walk", some "make_word"), "make_word", "Walk.make_word", defArgs (L2.inClass (top 25) 4), defBody (L2.inClass (top 25) 4), defScope (L2.inClass (top 25) 4), [], []⟩, ["self", "node", "word", "function", "age", "at"], ["self", "node", "word"], []⟩
def row_22 : FRow := ⟨⟨("first_walk", none), "first_walk", "first_walk", defArgs (top 26), defBody (top 26), defScope (top 26), [], []⟩, ["system", "ledger"], ["system", "ledger"], []⟩
def row_23 : FRow := ⟨⟨("gone", none), "gone", "gone", defArgs (top 27), defBody (top 27), defScope (top 27), [], []⟩, ["system", "run", "walk", "move"], ["system", "run"], []⟩
def row_24 : FRow := ⟨⟨("do_rise", none), "do_rise", "do_rise", defArgs (top 30), defBody (top 30), defScope (top 30), [], []⟩, ["value", "one", "two"], ["value"], []⟩
def row_25 : FRow := ⟨⟨("is_wait", none), "is_wait", "is_wait", defArgs (top 31), defBody (top 31), defScope (top 31), [], []⟩, ["system", "value", "part"], ["system", "value"], []⟩
def row_26 : FRow := ⟨⟨("is_point", none), "is_point", "is_point", defArgs (top 32), defBody (top 32), defScope (top 32), [], []⟩, ["system", "value"], ["system", "value"], []⟩
def row_27 : FRow := ⟨⟨("are_points", none), "are_points", "are_points", defArgs (top 33), defBody (top 33), defScope (top 33), [], []⟩, ["system", "value", "part"], ["system", "value"], []⟩
def row_28 : FRow := ⟨⟨("is_rule", none), "is_rule", "is_rule", defArgs (top 34), defBody (top 34), defScope (top 34), [], []⟩, ["system", "value"], ["system", "value"], []⟩
def row_29 : FRow := ⟨⟨("are_prices", none), "are_prices", "are_prices", defArgs (top 35), defBody (top 35), defScope (top 35), [], []⟩, ["system", "value", "price"], ["system", "value"], []⟩
def row_30 : FRow := ⟨⟨("all_points", none), "all_points", "all_points", defArgs (top 36), defBody (top 36), defScope (top 36), [], []⟩, ["system", "found", "function", "node"], ["system"], []⟩
def row_31 : FRow := ⟨⟨("waits_of", none), "waits_of", "waits_of", defArgs (top 37), defBody (top 37), defScope (top 37), [], []⟩, ["system", "found", "function", "wait"], ["system"], []⟩
def row_32 : FRow := ⟨⟨("is_open", none), "is_open", "is_open", defArgs (top 38), defBody (top 38), defScope (top 38), [], []⟩, ["system", "rule", "function", "node"], ["system", "rule", "function", "node"], []⟩
def row_33 : FRow := ⟨⟨("blocked", none), "blocked", "blocked", defArgs (top 39), defBody (top 39), defScope (top 39), [], []⟩, ["rule", "functions", "function"], ["rule", "functions"], []⟩
def row_34 : FRow := ⟨⟨("is_allowed", none), "is_allowed", "is_allowed", defArgs (top 40), defBody (top 40), defScope (top 40), [], []⟩, ["system", "rule", "state", "content", "stack", "has_swapped", "frame"], ["system", "rule", "state"], []⟩
def row_35 : FRow := ⟨⟨("first_refused", none), "first_refused", "first_refused", defArgs (top 41), defBody (top 41), defScope (top 41), [], []⟩, ["system", "rule", "run", "walk", "index", "move"], ["system", "rule", "run"], []⟩
def row_36 : FRow := ⟨⟨("keeps", none), "keeps", "keeps", defArgs (top 42), defBody (top 42), defScope (top 42), [], []⟩, ["system", "rule", "run"], ["system", "rule", "run"], []⟩
def row_37 : FRow := ⟨⟨("is_parts", none), "is_parts", "is_parts", defArgs (top 47), defBody (top 47), defScope (top 47), [], []⟩, ["value", "many"], ["value", "many"], []⟩
def row_38 : FRow := ⟨⟨("is_rising", none), "is_rising", "is_rising", defArgs (top 48), defBody (top 48), defScope (top 48), [], []⟩, ["row", "index"], ["row"], []⟩
def row_39 : FRow := ⟨⟨("are_contents", none), "are_contents", "are_contents", defArgs (top 49), defBody (top 49), defScope (top 49), [], []⟩, ["system", "value", "part"], ["system", "value"], []⟩
def row_40 : FRow := ⟨⟨("is_spot", none), "is_spot", "is_spot", defArgs (top 50), defBody (top 50), defScope (top 50), [], []⟩, ["system", "age", "function", "node", "content"], ["system", "age", "function", "node", "content"], []⟩
def row_41 : FRow := ⟨⟨("is_ends_table", none), "is_ends_table", "is_ends_table", defArgs (top 51), defBody (top 51), defScope (top 51), [], []⟩, ["system", "age", "value", "row"], ["system", "age", "value"], []⟩
def row_42 : FRow := ⟨⟨("is_remainders_table", none), "is_remainders_table", "is_remainders_table", defArgs (top 52), defBody (top 52), defScope (top 52), [], []⟩, ["system", "value"], ["system", "value"], []⟩
def row_43 : FRow := ⟨⟨("is_flagged", none), "is_flagged", "is_flagged", defArgs (top 53), defBody (top 53), defScope (top 53), [], []⟩, ["system", "row"], ["system", "row"], []⟩
def row_44 : FRow := ⟨⟨("is_silents_table", none), "is_silents_table", "is_silents_table", defArgs (top 54), defBody (top 54), defScope (top 54), [], []⟩, ["system", "value", "row"], ["system", "value"], []⟩
def row_45 : FRow := ⟨⟨("is_ranks_table", none), "is_ranks_table", "is_ranks_table", defArgs (top 55), defBody (top 55), defScope (top 55), [], []⟩, ["system", "value", "row"], ["system", "value"], []⟩
def row_46 : FRow := ⟨⟨("is_mixed_table", none), "is_mixed_table", "is_mixed_table", defArgs (top 56), defBody (top 56), defScope (top 56), [], []⟩, ["system", "value", "row"], ["system", "value"], []⟩
def row_47 : FRow := ⟨⟨("is_marked", none), "is_marked", "is_marked", defArgs (top 57), defBody (top 57), defScope (top 57), [], []⟩, ["content", "mark", "many"], ["content", "mark", "many"], []⟩
def row_48 : FRow := ⟨⟨("with_function", none), "with_function", "with_function", defArgs (top 59), defBody (top 59), defScope (top 59), [], []⟩, ["beneath", "function"], ["beneath", "function"], []⟩
def row_49 : FRow := ⟨⟨("price_of", none), "price_of", "price_of", defArgs (top 61), defBody (top 61), defScope (top 61), [], []⟩, ["wait", "prices", "function"], ["wait", "prices"], []⟩
def row_50 : FRow := ⟨⟨("swap_of", none), "swap_of", "swap_of", defArgs (top 63), defBody (top 63), defScope (top 63), [], []⟩, ["system", "run", "ledger", "moves", "stack", "frame"], ["system", "run"], []⟩
def row_51 : FRow := ⟨⟨("tells", none), "tells", "tells", defArgs (top 64), defBody (top 64), defScope (top 64), [], []⟩, ["system", "run", "wait", "point", "where", "functions"], ["system", "run", "wait", "point"], []⟩
def row_52 : FRow := ⟨⟨("is_valid", none), "is_valid", "is_valid", defArgs (top 67), defBody (top 67), defScope (top 67), [], []⟩, ["system", "value", "word", "many"], ["system", "value"], []⟩
def row_53 : FRow := ⟨⟨("is_claim", none), "is_claim", "is_claim", defArgs (top 68), defBody (top 68), defScope (top 68), [], []⟩, ["system", "value"], ["system", "value"], []⟩
def row_54 : FRow := ⟨⟨("known_rows", none), "known_rows", "known_rows", defArgs (top 70), defBody (top 70), defScope (top 70), [], []⟩, ["rows", "row"], ["rows"], []⟩
def row_55 : FRow := ⟨⟨("places_behind", none), "places_behind", "places_behind", defArgs (top 71), defBody (top 71), defScope (top 71), [], []⟩, ["system", "age", "spot", "called", "function", "node", "content", "step", "some", "end"], ["system", "age", "spot", "called"], []⟩
def row_56 : FRow := ⟨⟨("row_fault", none), "row_fault", "row_fault", defArgs (top 72), defBody (top 72), defScope (top 72), [], []⟩, ["system", "age", "row", "known", "called", "is_harmless", "function", "node", "content", "some", "word", "places", "place", "end"], ["system", "age", "row", "known", "called", "is_harmless"], []⟩
def row_57 : FRow := ⟨⟨("rows_fault", none), "rows_fault", "rows_fault", defArgs (top 73), defBody (top 73), defScope (top 73), [], []⟩, ["system", "age", "rows", "called", "is_harmless", "known", "index", "row", "kind"], ["system", "age", "rows", "called", "is_harmless"], []⟩
def row_58 : FRow := ⟨⟨("ends_fault", none), "ends_fault", "ends_fault", defArgs (top 74), defBody (top 74), defScope (top 74), [], []⟩, ["system", "age", "rows", "is_harmless"], ["system", "age", "rows", "is_harmless"], []⟩
def row_59 : FRow := ⟨⟨("remainders_fault", none), "remainders_fault", "remainders_fault", defArgs (top 75), defBody (top 75), defScope (top 75), [], []⟩, ["system", "rows", "news"], ["system", "rows", "news"], []⟩
def row_60 : FRow := ⟨⟨("headed_paperchecks", none), "headed", "headed", defArgs (top 77), defBody (top 77), defScope (top 77), [], []⟩, ["word", "fault"], ["word", "fault"], []⟩
def row_61 : FRow := ⟨⟨("is_safe_paper", none), "is_safe_paper", "is_safe_paper", defArgs (top 79), defBody (top 79), defScope (top 79), [], []⟩, ["system", "value"], ["system", "value"], []⟩
def row_62 : FRow := ⟨⟨("is_recurs_paper", none), "is_recurs_paper", "is_recurs_paper", defArgs (top 80), defBody (top 80), defScope (top 80), [], []⟩, ["system", "value"], ["system", "value"], []⟩
def row_63 : FRow := ⟨⟨("rows_by_spot", none), "rows_by_spot", "rows_by_spot", defArgs (top 81), defBody (top 81), defScope (top 81), [], []⟩, ["rows", "row"], ["rows"], []⟩
def row_64 : FRow := ⟨⟨("flag_of", none), "flag_of", "flag_of", defArgs (top 82), defBody (top 82), defScope (top 82), [], []⟩, ["rule", "flag", "function"], ["rule", "flag", "function"], []⟩
def row_65 : FRow := ⟨⟨("mixed_needs", none), "mixed_needs", "mixed_needs", defArgs (top 83), defBody (top 83), defScope (top 83), [], []⟩, ["system", "rule", "row", "olds", "rest", "known", "function", "node", "content", "beneath", "some", "step", "found", "places", "place", "inner", "ends_of", "end"], ["system", "rule", "row", "olds", "rest", "known"], []⟩
def row_66 : FRow := ⟨⟨("mixed_fault", none), "mixed_fault", "mixed_fault", defArgs (top 84), defBody (top 84), defScope (top 84), [], []⟩, ["system", "rule", "paper", "olds", "rest", "known", "index", "row", "needs", "end", "ends_of"], ["system", "rule", "paper"], []⟩
def row_67 : FRow := ⟨⟨("safe_paper_fault", none), "safe_paper_fault", "safe_paper_fault", defArgs (top 85), defBody (top 85), defScope (top 85), [], []⟩, ["system", "rule", "paper", "olds", "news", "rest", "mixed", "fault"], ["system", "rule", "paper"], []⟩
def row_68 : FRow := ⟨⟨("silent_row_fault", none), "silent_row_fault", "silent_row_fault", defArgs (top 86), defBody (top 86), defScope (top 86), [], []⟩, ["system", "rule", "row", "known", "function", "flag", "node", "content", "some", "step", "places", "ends_of", "end", "later", "place"], ["system", "rule", "row", "known"], []⟩
def row_69 : FRow := ⟨⟨("silents_fault", none), "silents_fault", "silents_fault", defArgs (top 87), defBody (top 87), defScope (top 87), [], []⟩, ["system", "rule", "rows", "known", "index", "row", "kind"], ["system", "rule", "rows"], []⟩
def row_70 : FRow := ⟨⟨("rank_row_fault", none), "rank_row_fault", "rank_row_fault", defArgs (top 88), defBody (top 88), defScope (top 88), [], []⟩, ["system", "rule", "row", "olds", "silents", "known", "function", "flag", "node", "content", "number", "step", "is_let", "later", "place", "passed", "inner", "ends_of", "quiet", "end", "spot"], ["system", "rule", "row", "olds", "silents", "known"], []⟩
def row_71 : FRow := ⟨⟨("recurs_paper_fault", none), "recurs_paper_fault", "recurs_paper_fault", defArgs (top 89), defBody (top 89), defScope (top 89), [], []⟩, ["system", "rule", "paper", "olds", "silents", "ranks", "fault", "known", "by_olds", "by_silents", "index", "row", "kind"], ["system", "rule", "paper"], []⟩
def row_72 : FRow := ⟨⟨("is_run_form", none), "is_run_form", "is_run_form", defArgs (top 92), defBody (top 92), defScope (top 92), [], []⟩, ["system", "value"], ["system", "value"], []⟩
def row_73 : FRow := ⟨⟨("is_stall_form", none), "is_stall_form", "is_stall_form", defArgs (top 93), defBody (top 93), defScope (top 93), [], []⟩, ["system", "value"], ["system", "value"], []⟩
def row_74 : FRow := ⟨⟨("moves_fault", none), "moves_fault", "moves_fault", defArgs (top 94), defBody (top 94), defScope (top 94), [], []⟩, ["system", "run", "found", "walk", "index", "move"], ["system", "run"], []⟩
def row_75 : FRow := ⟨⟨("is_at_bad", none), "is_at_bad", "is_at_bad", defArgs (top 95), defBody (top 95), defScope (top 95), [], []⟩, ["system", "stack", "function", "age", "node"], ["system", "stack"], []⟩
def row_76 : FRow := ⟨⟨("bad_fault", none), "bad_fault", "bad_fault", defArgs (top 96), defBody (top 96), defScope (top 96), [], []⟩, ["system", "run", "fault"], ["system", "run"], []⟩
def row_77 : FRow := ⟨⟨("run_fault", none), "run_fault", "run_fault", defArgs (top 97), defBody (top 97), defScope (top 97), [], []⟩, ["system", "rule", "run", "fault", "index"], ["system", "rule", "run"], []⟩
def row_78 : FRow := ⟨⟨("row_places", none), "row_places", "row_places", defArgs (top 98), defBody (top 98), defScope (top 98), [], []⟩, ["system", "ledger", "finds", "row", "age", "function", "content", "way", "body", "at", "places", "move"], ["system", "ledger", "finds", "row"], []⟩
def row_79 : FRow := ⟨⟨("silent_flags", none), "silent_flags", "silent_flags", defArgs (top 99), defBody (top 99), defScope (top 99), [], []⟩, ["system", "rule", "ledger", "finds", "found", "row", "is_shut", "node", "skips", "move", "index"], ["system", "rule", "ledger"], []⟩
def row_80 : FRow := ⟨⟨("cycle_walk", none), "cycle_walk", "cycle_walk", defArgs (top 100), defBody (top 100), defScope (top 100), [], []⟩, ["system", "stall", "ledger", "moves", "cycle", "cells", "frames", "has_swapped"], ["system", "stall"], []⟩
def row_81 : FRow := ⟨⟨("cycle_fault", none), "cycle_fault", "cycle_fault", defArgs (top 101), defBody (top 101), defScope (top 101), [], []⟩, ["system", "stall", "walk", "many", "index", "move"], ["system", "stall"], []⟩
def row_82 : FRow := ⟨⟨("back_fault", none), "back_fault", "back_fault", defArgs (top 102), defBody (top 102), defScope (top 102), [], []⟩, ["system", "stall", "walk", "first", "move"], ["system", "stall"], []⟩
def row_83 : FRow := ⟨⟨("allowed_fault", none), "allowed_fault", "allowed_fault", defArgs (top 103), defBody (top 103), defScope (top 103), [], []⟩, ["system", "rule", "stall", "walk", "flags", "index", "move", "frame"], ["system", "rule", "stall"], []⟩
def row_84 : FRow := ⟨⟨("loose_fault", none), "loose_fault", "loose_fault", defArgs (top 104), defBody (top 104), defScope (top 104), [], []⟩, ["system", "stall", "run", "cycle", "fault"], ["system", "stall"], []⟩
def row_85 : FRow := ⟨⟨("stall_fault", none), "stall_fault", "stall_fault", defArgs (top 105), defBody (top 105), defScope (top 105), [], []⟩, ["system", "rule", "stall", "fault"], ["system", "rule", "stall"], []⟩
def row_86 : FRow := ⟨⟨("any_stall_fault", none), "any_stall_fault", "any_stall_fault", defArgs (top 106), defBody (top 106), defScope (top 106), [], []⟩, ["system", "stall", "fault"], ["system", "stall"], []⟩
def row_87 : FRow := ⟨⟨("safe_fault", none), "safe_fault", "safe_fault", defArgs (top 111), defBody (top 111), defScope (top 111), [], []⟩, ["system", "is_shown", "claim", "content"], ["system", "is_shown", "claim", "content"], []⟩
def row_88 : FRow := ⟨⟨("recurs_fault", none), "recurs_fault", "recurs_fault", defArgs (top 112), defBody (top 112), defScope (top 112), [], []⟩, ["system", "is_shown", "claim", "content"], ["system", "is_shown", "claim", "content"], []⟩
def row_89 : FRow := ⟨⟨("are_all", none), "are_all", "are_all", defArgs (top 113), defBody (top 113), defScope (top 113), [], []⟩, ["value", "most", "is_one", "part"], ["value", "most", "is_one"], []⟩
def row_90 : FRow := ⟨⟨("are_reasons", none), "are_reasons", "are_reasons", defArgs (top 114), defBody (top 114), defScope (top 114), [], []⟩, ["system", "value", "most"], ["system", "value", "most"], []⟩
def row_91 : FRow := ⟨⟨("parts_fault", none), "parts_fault", "parts_fault", defArgs (top 115), defBody (top 115), defScope (top 115), [], []⟩, ["system", "reasons", "index", "run", "fault", "one"], ["system", "reasons"], []⟩
def row_92 : FRow := ⟨⟨("is_stalled", none), "is_stalled", "is_stalled", defArgs (top 116), defBody (top 116), defScope (top 116), [], []⟩, ["system", "rule", "stalls", "one"], ["system", "rule", "stalls"], []⟩
def row_93 : FRow := ⟨⟨("reasons_fault", none), "reasons_fault", "reasons_fault", defArgs (top 117), defBody (top 117), defScope (top 117), [], []⟩, ["system", "points", "waits", "reasons", "fault", "wait", "rule", "run"], ["system", "points", "waits", "reasons"], []⟩
def row_94 : FRow := ⟨⟨("good_fault", none), "good_fault", "good_fault", defArgs (top 118), defBody (top 118), defScope (top 118), [], []⟩, ["system", "rule", "safe", "recurring", "fault"], ["system", "rule", "safe", "recurring"], []⟩
def row_95 : FRow := ⟨⟨("are_papers", none), "are_papers", "are_papers", defArgs (top 119), defBody (top 119), defScope (top 119), [], []⟩, ["system", "safe", "recurring"], ["system", "safe", "recurring"], []⟩
def row_96 : FRow := ⟨⟨("waits_below", none), "waits_below", "waits_below", defArgs (top 120), defBody (top 120), defScope (top 120), [], []⟩, ["system", "prices", "most", "wait"], ["system", "prices", "most"], []⟩
def row_97 : FRow := ⟨⟨("shown_least_fault", none), "shown_least_fault", "shown_least_fault", defArgs (top 121), defBody (top 121), defScope (top 121), [], []⟩, ["system", "claim", "content", "word", "points", "prices", "number", "wait", "safe", "recurring", "reasons", "fault"], ["system", "claim", "content"], []⟩
def row_98 : FRow := ⟨⟨("least_fault", none), "least_fault", "least_fault", defArgs (top 122), defBody (top 122), defScope (top 122), [], []⟩, ["system", "is_shown", "claim", "content", "word", "points", "prices", "number"], ["system", "is_shown", "claim", "content"], []⟩
def row_99 : FRow := ⟨⟨("lost_fault", none), "lost_fault", "lost_fault", defArgs (top 123), defBody (top 123), defScope (top 123), [], []⟩, ["system", "is_shown", "claim", "content"], ["system", "is_shown", "claim", "content"], []⟩
def row_100 : FRow := ⟨⟨("shown_hopeless_fault", none), "shown_hopeless_fault", "shown_hopeless_fault", defArgs (top 124), defBody (top 124), defScope (top 124), [], []⟩, ["system", "reasons", "fault", "run", "wait", "rest", "point"], ["system", "reasons"], []⟩
def row_101 : FRow := ⟨⟨("hopeless_fault", none), "hopeless_fault", "hopeless_fault", defArgs (top 125), defBody (top 125), defScope (top 125), [], []⟩, ["system", "is_shown", "claim", "content"], ["system", "is_shown", "claim", "content"], []⟩
def row_102 : FRow := ⟨⟨("ledger_fault", none), "ledger_fault", "ledger_fault", defArgs (top 129), defBody (top 129), defScope (top 129), [], []⟩, ["system", "ledger", "found"], ["system", "ledger"], []⟩
def row_103 : FRow := ⟨⟨("headed_checker", none), "headed", "headed", defArgs (top 130), defBody (top 130), defScope (top 130), [], []⟩, ["word", "fault"], ["word", "fault"], []⟩
def row_104 : FRow := ⟨⟨("listed_fault", none), "listed_fault", "listed_fault", defArgs (top 132), defBody (top 132), defScope (top 132), [], []⟩, ["ledger", "finds", "rows", "claim", "word", "age", "function", "content", "some", "place", "index", "end"], ["ledger", "finds", "rows", "claim"], []⟩
def row_105 : FRow := ⟨⟨("shown_ends_fault", none), "shown_ends_fault", "shown_ends_fault", defArgs (top 133), defBody (top 133), defScope (top 133), [], []⟩, ["system", "claim", "content", "word", "age", "function", "first", "some", "ledger", "rows", "table", "index", "fault"], ["system", "claim", "content"], []⟩
def row_106 : FRow := ⟨⟨("broken_ends_fault", none), "broken_ends_fault", "broken_ends_fault", defArgs (top 134), defBody (top 134), defScope (top 134), [], []⟩, ["system", "claim", "content", "word", "age", "function", "first", "some", "fault"], ["system", "claim", "content"], []⟩
def row_107 : FRow := ⟨⟨("is_one_of", none), "is_one_of", "is_one_of", defArgs (top 135), defBody (top 135), defScope (top 135), [], []⟩, ["value", "some", "one"], ["value", "some"], []⟩
def row_108 : FRow := ⟨⟨("lacking_fault", none), "lacking_fault", "lacking_fault", defArgs (top 136), defBody (top 136), defScope (top 136), [], []⟩, ["table", "spot", "end", "found"], ["table", "spot", "end"], []⟩
def row_109 : FRow := ⟨⟨("way_fault", none), "way_fault", "way_fault", defArgs (top 137), defBody (top 137), defScope (top 137), [], []⟩, ["system", "ledger", "finds", "spot", "way", "function", "node", "content", "at", "end", "index"], ["system", "ledger", "finds", "spot", "way"], []⟩
def row_110 : FRow := ⟨⟨("way_end", none), "way_end", "way_end", defArgs (top 138), defBody (top 138), defScope (top 138), [], []⟩, ["system", "ledger", "finds", "spot", "way", "function", "node", "content"], ["system", "ledger", "finds", "spot", "way"], []⟩
def row_111 : FRow := ⟨⟨("ways_fault", none), "ways_fault", "ways_fault", defArgs (top 139), defBody (top 139), defScope (top 139), [], []⟩, ["system", "ledger", "spot", "ways", "some", "finds", "place", "way", "index", "end"], ["system", "ledger", "spot", "ways", "some"], []⟩
def row_112 : FRow := ⟨⟨("both_fault", none), "both_fault", "both_fault", defArgs (top 140), defBody (top 140), defScope (top 140), [], []⟩, ["system", "news", "table", "fault"], ["system", "news", "table"], []⟩
def row_113 : FRow := ⟨⟨("are_both", none), "are_both", "are_both", defArgs (top 141), defBody (top 141), defScope (top 141), [], []⟩, ["system", "news", "table"], ["system", "news", "table"], []⟩
def row_114 : FRow := ⟨⟨("shown_remainders_fault", none), "shown_remainders_fault", "shown_remainders_fault", defArgs (top 142), defBody (top 142), defScope (top 142), [], []⟩, ["system", "claim", "content", "spot", "some", "ledger", "ways", "news", "table", "way", "fault"], ["system", "claim", "content"], []⟩
def row_115 : FRow := ⟨⟨("more_fault", none), "more_fault", "more_fault", defArgs (top 143), defBody (top 143), defScope (top 143), [], []⟩, ["system", "claim", "ledger", "way", "fault", "finds", "index"], ["system", "claim", "ledger", "way"], []⟩
def row_116 : FRow := ⟨⟨("harm_fault", none), "harm_fault", "harm_fault", defArgs (top 144), defBody (top 144), defScope (top 144), [], []⟩, ["system", "claim", "ledger", "moves", "word", "function", "node", "content", "some", "fault", "walk", "index", "move"], ["system", "claim", "ledger", "moves"], []⟩
def row_117 : FRow := ⟨⟨("broken_remainders_fault", none), "broken_remainders_fault", "broken_remainders_fault", defArgs (top 145), defBody (top 145), defScope (top 145), [], []⟩, ["system", "claim", "content", "fault"], ["system", "claim", "content"], []⟩
def row_118 : FRow := ⟨⟨("fault_of", none), "fault_of", "fault_of", defArgs (top 146), defBody (top 146), defScope (top 146), [], []⟩, ["system", "is_shown", "claim", "content", "check"], ["system", "is_shown", "claim", "content"], []⟩
def row_119 : FRow := ⟨⟨("first_fault", none), "first_fault", "first_fault", defArgs (top 147), defBody (top 147), defScope (top 147), [], []⟩, ["system", "certificate", "word", "claim", "content"], ["system", "certificate"], []⟩
def row_120 : FRow := ⟨⟨("_law_pair", none), "_law_pair", "_law_pair", defArgs (top 149), defBody (top 149), defScope (top 149), [], []⟩, ["_law_loop", "_law_twice", "_law_low", "_law_high"], [], []⟩
def row_121 : FRow := ⟨⟨("_law_deep", none), "_law_deep", "_law_deep", defArgs (top 150), defBody (top 150), defScope (top 150), [], []⟩, ["_law_size", "_law_down", "_law_short", "_law_main"], ["_law_size"], []⟩
def row_122 : FRow := ⟨⟨("_law_more", none), "_law_more", "_law_more", defArgs (top 151), defBody (top 151), defScope (top 151), [], []⟩, ["_law_system", "_law_era", "_law_function", "_law_content", "_law_some", "_law_rows", "_law_claim"], ["_law_system", "_law_era", "_law_function", "_law_content", "_law_some", "_law_rows"], []⟩
def row_123 : FRow := ⟨⟨("_law_pair_right", none), "_law_pair_right", "_law_pair_right", defArgs (top 152), defBody (top 152), defScope (top 152), [], []⟩, ["_law_pair_here", "_law_zero", "_law_one", "_law_low", "_law_high", "_law_twice", "_law_rows", "_law_told", "_law_some", "_law_due", "_law_news"], [], []⟩
def row_124 : FRow := ⟨⟨("_law_deep_right", none), "_law_deep_right", "_law_deep_right", defArgs (top 153), defBody (top 153), defScope (top 153), [], []⟩, ["_law_value", "_law_deep_here", "_law_rows", "_law_at", "_law_due", "_law_other", "_law_bent", "_law_claim", "_law_told", "_law_some"], ["_law_value"], []⟩
def row_125 : FRow := ⟨⟨("law", none), "law", "law", defArgs (top 154), defBody (top 154), defScope (top 154), [], []⟩, ["_law_script", "_law_cells", "_law_cell"], ["_law_script"], []⟩
def rows : List FRow := [row_0, row_1, row_2, row_3, row_4, row_5, row_6, row_7, row_8, row_9, row_10, row_11, row_12, row_13, row_14, row_15, row_16, row_17, row_18, row_19, row_20, row_21, row_22, row_23, row_24, row_25, row_26, row_27, row_28, row_29, row_30, row_31, row_32, row_33, row_34, row_35, row_36, row_37, row_38, row_39, row_40, row_41, row_42, row_43, row_44, row_45, row_46, row_47, row_48, row_49, row_50, row_51, row_52, row_53, row_54, row_55, row_56, row_57, row_58, row_59, row_60, row_61, row_62, row_63, row_64, row_65, row_66, row_67, row_68, row_69, row_70, row_71, row_72, row_73, row_74, row_75, row_76, row_77, row_78, row_79, row_80, row_81, row_82, row_83, row_84, row_85, row_86, row_87, row_88, row_89, row_90, row_91, row_92, row_93, row_94, row_95, row_96, row_97, row_98, row_99, row_100, row_101, row_102, row_103, row_104, row_105, row_106, row_107, row_108, row_109, row_110, row_111, row_112, row_113, row_114, row_115, row_116, row_117, row_118, row_119, row_120, row_121, row_122, row_123, row_124, row_125]
def gi : GI where
  fns := rows.map FRow.fi
  cls := [("Walk", ⟨some 17, [(1, 18), (2, 19), (3, 20), (4, 21)], [5, 6, 7, 8, 9, 10]⟩)]
  flds := ["__init__", "top_node", "era", "make", "make_word", "ground", "ledger", "finds", "cells", "frames", "has_swapped", "get", "append", "index", "pop"]
  cons := [("AGES", (.tup [(.str "old"), (.str "new")])), ("MOST_ROWS", (.int (200))), ("MOST_WAY", (.int (100))), ("MOST_MOVES", (.int (30000))), ("MOST_VALUES", (.int (4))), ("MOST_PRICE", (.int (99))), ("FORM", (.tup [(.str "form")])), ("RANKS_END", (.int (10001))), ("FLAGS", (.int (2))), ("LEAST_END", (.int (401))), ("BAD", (.tup [(.str "bad")])), ("PRICE", (.tup [(.str "price")])), ("MOST_REASONS", (.int (16))), ("MOST_RUNS", (.int (600))), ("SAME", (.tup [(.str "same")])), ("ENTRY", (.tup [(.str "entry")]))]
  blts := ["abs", "all", "any", "bool", "enumerate", "int", "isinstance", "len", "list", "range", "repr", "sorted", "str", "sum", "tuple", "zip"]
  cmb := [(0, 2, ([] : List Str)), (1, 2, ([] : List Str)), (2, 2, ([] : List Str)), (3, 3, ([] : List Str)), (4, 2, ([] : List Str)), (5, 2, ([] : List Str)), (5, 2, (["age"] : List Str)), (6, 4, ([] : List Str)), (6, 4, (["age"] : List Str)), (7, 1, ([] : List Str)), (8, 1, ([] : List Str)), (9, 1, ([] : List Str)), (10, 1, ([] : List Str)), (11, 1, ([] : List Str)), (12, 2, ([] : List Str)), (13, 4, ([] : List Str)), (14, 6, ([] : List Str)), (15, 5, ([] : List Str)), (16, 2, ([] : List Str)), (17, 6, ([] : List Str)), (18, 1, ([] : List Str)), (19, 1, ([] : List Str)), (20, 2, ([] : List Str)), (21, 3, ([] : List Str)), (22, 2, ([] : List Str)), (23, 2, ([] : List Str)), (24, 1, ([] : List Str)), (25, 2, ([] : List Str)), (26, 2, ([] : List Str)), (27, 2, ([] : List Str)), (28, 2, ([] : List Str)), (29, 2, ([] : List Str)), (30, 1, ([] : List Str)), (31, 1, ([] : List Str)), (32, 4, ([] : List Str)), (33, 2, ([] : List Str)), (34, 3, ([] : List Str)), (35, 3, ([] : List Str)), (36, 3, ([] : List Str)), (37, 2, ([] : List Str)), (38, 1, ([] : List Str)), (39, 2, ([] : List Str)), (40, 5, ([] : List Str)), (41, 3, ([] : List Str)), (42, 2, ([] : List Str)), (43, 2, ([] : List Str)), (44, 2, ([] : List Str)), (45, 2, ([] : List Str)), (46, 2, ([] : List Str)), (47, 3, ([] : List Str)), (48, 2, ([] : List Str)), (49, 2, ([] : List Str)), (50, 2, ([] : List Str)), (51, 4, ([] : List Str)), (52, 2, ([] : List Str)), (53, 2, ([] : List Str)), (54, 1, ([] : List Str)), (55, 4, ([] : List Str)), (56, 6, ([] : List Str)), (57, 5, ([] : List Str)), (58, 3, (["is_harmless"] : List Str)), (59, 3, ([] : List Str)), (60, 2, ([] : List Str)), (61, 2, ([] : List Str)), (62, 2, ([] : List Str)), (63, 1, ([] : List Str)), (64, 3, ([] : List Str)), (65, 6, ([] : List Str)), (66, 3, ([] : List Str)), (67, 3, ([] : List Str)), (68, 4, ([] : List Str)), (69, 3, ([] : List Str)), (70, 6, ([] : List Str)), (71, 3, ([] : List Str)), (72, 2, ([] : List Str)), (73, 2, ([] : List Str)), (74, 2, ([] : List Str)), (75, 2, ([] : List Str)), (76, 2, ([] : List Str)), (77, 3, ([] : List Str)), (78, 4, ([] : List Str)), (79, 3, ([] : List Str)), (80, 2, ([] : List Str)), (81, 2, ([] : List Str)), (82, 2, ([] : List Str)), (83, 3, ([] : List Str)), (84, 2, ([] : List Str)), (85, 3, ([] : List Str)), (86, 2, ([] : List Str)), (87, 4, ([] : List Str)), (88, 4, ([] : List Str)), (89, 3, ([] : List Str)), (90, 3, ([] : List Str)), (91, 2, ([] : List Str)), (92, 3, ([] : List Str)), (93, 4, ([] : List Str)), (94, 4, ([] : List Str)), (95, 3, ([] : List Str)), (96, 3, ([] : List Str)), (97, 3, ([] : List Str)), (98, 4, ([] : List Str)), (99, 4, ([] : List Str)), (100, 2, ([] : List Str)), (101, 4, ([] : List Str)), (102, 2, ([] : List Str)), (103, 2, ([] : List Str)), (104, 4, ([] : List Str)), (105, 3, ([] : List Str)), (106, 3, ([] : List Str)), (107, 2, ([] : List Str)), (108, 3, ([] : List Str)), (109, 5, ([] : List Str)), (110, 5, ([] : List Str)), (111, 5, ([] : List Str)), (112, 3, ([] : List Str)), (113, 3, ([] : List Str)), (114, 3, ([] : List Str)), (115, 4, ([] : List Str)), (116, 4, ([] : List Str)), (117, 3, ([] : List Str)), (118, 4, ([] : List Str)), (119, 2, ([] : List Str)), (120, 0, ([] : List Str)), (121, 1, ([] : List Str)), (122, 6, ([] : List Str)), (123, 0, ([] : List Str)), (124, 1, ([] : List Str))]
  pur := [0, 1, 2, 3, 4, 5, 6, 7, 8, 9, 10, 11, 12, 13, 14, 15, 24, 25, 26, 27, 28, 29, 30, 31, 32, 33, 34, 35, 36, 37, 38, 39, 40, 41, 42, 43, 44, 45, 46, 47, 48, 49, 50, 51, 52, 53, 55, 56, 57, 58, 59, 60, 61, 62, 64, 66, 67, 68, 69, 70, 71, 72, 73, 74, 75, 76, 77, 81, 82, 83, 84, 85, 86, 87, 88, 89, 90, 91, 92, 93, 94, 95, 97, 98, 99, 100, 101, 102, 103, 104, 105, 106, 107, 108, 109, 110, 111, 112, 113, 114, 115, 116, 117, 118, 119, 120, 121, 122, 123, 124]
def prcC : PrC := ⟨rows.map fun r => ⟨r.N.length, compSs gi r.N 30 r.d.scope r.d.body⟩, gi.cls.map (·.2)⟩
def lawIx : Nat := 125
end Ev

set_option Elab.async false
set_option linter.all false
set_option maxRecDepth 100000
namespace Ev
open PySem PySem.Spec PyProof.Rows L2
def prc : PrC := ⟨[
  ⟨2, [(.iff (.or (.isi (.var 0) [.bool]) (.not (.isi (.var 0) [.int]))) [(.ret (.lit (.bl false)))] []), (.ret (.chain .le .lt (.lit (.int 0)) (.var 0) (.var 1)))]⟩,
  ⟨4, [(.iff (.or (.not (.isi (.var 0) [.tuple])) (.cmp .ne (.bi .len [(.var 0)]) (.bi .len [(.var 1)]))) [(.ret (.lit (.bl false)))] []), (.forr (.tup [(.var 2), (.var 3)]) (.zip (.var 0) (.var 1) true) [(.iff (.not (.callP 0 [(.var 2), (.var 3)] [.a 0, .a 1])) [(.ret (.lit (.bl false)))] [])]), (.ret (.lit (.bl true)))]⟩,
  ⟨2, [(.ret (.callP 1 [(.var 1), (.ix (.var 0) (.lit (.int 0)))] [.a 0, .a 1]))]⟩,
  ⟨7, [(.asg (.tup [(.var 3), (.var 4), (.var 5)]) (.var 2)), (.asg (.var 6) (.ite (.cmp .eq (.var 3) (.lit (.str ⟨#[115, 101, 116]⟩))) (.var 5) (.bin .mod (.bin .add (.ix (.var 1) (.var 4)) (.var 5)) (.ix (.var 0) (.var 4))))), (.ret (.bin .add (.bin .add (.sl (.var 1) none (some (.var 4))) (.tup [(.var 6)])) (.sl (.var 1) (some (.bin .add (.var 4) (.lit (.int 1)))) none)))]⟩,
  ⟨3, [(.forr (.var 2) (.seq (.ix (.var 0) (.lit (.int 3)))) [(.asg (.var 1) (.callP 3 [(.ix (.var 0) (.lit (.int 0))), (.var 1), (.var 2)] [.a 0, .a 1, .a 2]))]), (.ret (.var 1))]⟩,
  ⟨3, [(.ret (.ix (.ix (.ix (.var 0) (.lit (.int 2))) (.var 1)) (.cix [⟨#[111, 108, 100]⟩, ⟨#[110, 101, 119]⟩] (.var 2))))]⟩,
  ⟨9, [(.asg (.var 5) (.ix (.callP 5 [(.var 0), (.var 1), (.var 4)] [.a 0, .a 1, .a 2]) (.var 2))), (.iff (.cmp .mem (.ix (.var 5) (.lit (.int 0))) (.tup [(.lit (.str ⟨#[115, 101, 116]⟩)), (.lit (.str ⟨#[97, 100, 100]⟩))])) [(.ret (.tup [(.tup [(.ix (.var 5) (.lit (.int 3))), (.callP 3 [(.ix (.var 0) (.lit (.int 0))), (.var 3), (.sl (.var 5) none (some (.lit (.int 3))))] [.a 0, .a 1, .a 2])])]))] []), (.iff (.cmp .eq (.ix (.var 5) (.lit (.int 0))) (.lit (.str ⟨#[108, 111, 111, 107]⟩))) [(.ret (.tup [(.tup [(.ix (.ix (.var 5) (.lit (.int 2))) (.ix (.var 3) (.ix (.var 5) (.lit (.int 1))))), (.var 3)])]))] []), (.iff (.cmp .ne (.ix (.var 5) (.lit (.int 0))) (.lit (.str ⟨#[97, 110, 121]⟩))) [(.ret (.tup []))] []), (.asg (.tup [(.var 6), (.var 7)]) (.tup [(.ix (.var 0) (.lit (.int 0))), (.ix (.var 5) (.lit (.int 1)))])), (.ret (.bi .tuple [(.lc [8] (.var 8) (.range1 (.ix (.var 6) (.var 7))) [] (.tup [(.ix (.var 5) (.lit (.int 2))), (.callP 3 [(.var 6), (.var 3), (.tup [(.lit (.str ⟨#[115, 101, 116]⟩)), (.var 7), (.var 8)])] [.a 0, .a 1, .a 2])]))]))]⟩,
  ⟨1, [(.iff (.or (.not (.isi (.var 0) [.tuple])) (.or (.cmp .ne (.bi .len [(.var 0)]) (.lit (.int 2))) (.not (.isi (.ix (.var 0) (.lit (.int 0))) [.str])))) [(.ret (.lit (.bl false)))] []), (.ret (.and (.cmp .eq (.ix (.var 0) (.lit (.int 0))) (.lit (.str ⟨#[115, 107, 105, 112]⟩))) (.callP 0 [(.ix (.var 0) (.lit (.int 1))), (.lit (.int 200))] [.a 0, .a 1])))]⟩,
  ⟨1, [(.ret (.or (.cmp .isN (.var 0) (.lit .non)) (.or (.callP 0 [(.var 0), (.lit (.int 4))] [.a 0, .a 1]) (.callP 7 [(.var 0)] [.a 0]))))]⟩,
  ⟨2, [(.iff (.or (.not (.isi (.var 0) [.tuple])) (.cmp .gt (.bi .len [(.var 0)]) (.lit (.int 100)))) [(.ret (.lit (.bl false)))] []), (.forr (.var 1) (.seq (.var 0)) [(.iff (.not (.callP 8 [(.var 1)] [.a 0])) [(.ret (.lit (.bl false)))] [])]), (.ret (.lit (.bl true)))]⟩,
  ⟨3, [(.iff (.or (.not (.isi (.var 0) [.tuple])) (.cmp .gt (.bi .len [(.var 0)]) (.lit (.int 30000)))) [(.ret (.lit (.bl false)))] []), (.forr (.var 1) (.seq (.var 0)) [(.asg (.var 2) (.and (.isi (.var 1) [.tuple]) (.and (.cmp .eq (.bi .len [(.var 1)]) (.lit (.int 1))) (.isi (.ix (.var 1) (.lit (.int 0))) [.str])))), (.iff (.or (.and (.var 2) (.cmp .nmem (.ix (.var 1) (.lit (.int 0))) (.tup [(.lit (.str ⟨#[105, 110]⟩)), (.lit (.str ⟨#[111, 117, 116]⟩)), (.lit (.str ⟨#[115, 119, 97, 112]⟩))]))) (.and (.not (.var 2)) (.not (.callP 8 [(.var 1)] [.a 0])))) [(.ret (.lit (.bl false)))] [])]), (.ret (.lit (.bl true)))]⟩,
  ⟨1, [(.ret (.and (.isi (.var 0) [.str]) (.cmp .mem (.var 0) (.tup [(.lit (.str ⟨#[111, 108, 100]⟩)), (.lit (.str ⟨#[110, 101, 119]⟩))]))))]⟩,
  ⟨3, [(.iff (.or (.not (.isi (.var 1) [.tuple])) (.cmp .gt (.bi .len [(.var 1)]) (.lit (.int 200)))) [(.ret (.lit (.bl false)))] []), (.forr (.var 2) (.seq (.var 1)) [(.iff (.or (.not (.isi (.var 2) [.tuple])) (.or (.cmp .ne (.bi .len [(.var 2)]) (.lit (.int 4))) (.not (.callP 11 [(.ix (.var 2) (.lit (.int 0)))] [.a 0])))) [(.ret (.lit (.bl false)))] []), (.iff (.or (.not (.callP 0 [(.ix (.var 2) (.lit (.int 1))), (.bi .len [(.ix (.var 0) (.lit (.int 2)))])] [.a 0, .a 1])) (.or (.not (.callP 2 [(.var 0), (.ix (.var 2) (.lit (.int 2)))] [.a 0, .a 1])) (.not (.callP 9 [(.ix (.var 2) (.lit (.int 3)))] [.a 0])))) [(.ret (.lit (.bl false)))] [])]), (.ret (.lit (.bl true)))]⟩,
  ⟨6, [(.asg (.var 4) (.ix (.var 1) (.lit (.int 0)))), (.iff (.cmp .eq (.var 4) (.lit (.str ⟨#[97, 110, 121]⟩))) [(.asg (.var 5) (.callP 0 [(.var 3), (.ix (.var 0) (.ix (.var 1) (.lit (.int 1))))] [.a 0, .a 1])), (.ret (.ite (.var 5) (.tup [(.ix (.var 1) (.lit (.int 2))), (.callP 3 [(.var 0), (.var 2), (.tup [(.lit (.str ⟨#[115, 101, 116]⟩)), (.ix (.var 1) (.lit (.int 1))), (.var 3)])] [.a 0, .a 1, .a 2])]) (.lit .non)))] []), (.iff (.cmp .notN (.var 3) (.lit .non)) [(.ret (.lit .non))] []), (.iff (.cmp .mem (.var 4) (.tup [(.lit (.str ⟨#[115, 101, 116]⟩)), (.lit (.str ⟨#[97, 100, 100]⟩))])) [(.ret (.tup [(.ix (.var 1) (.lit (.int 3))), (.callP 3 [(.var 0), (.var 2), (.sl (.var 1) none (some (.lit (.int 3))))] [.a 0, .a 1, .a 2])]))] []), (.ret (.ite (.cmp .eq (.var 4) (.lit (.str ⟨#[108, 111, 111, 107]⟩))) (.tup [(.ix (.ix (.var 1) (.lit (.int 2))) (.ix (.var 2) (.ix (.var 1) (.lit (.int 1))))), (.var 2)]) (.lit .non)))]⟩,
  ⟨6, [(.iff (.or (.cmp .ne (.ix (.var 3) (.lit (.int 0))) (.lit (.str ⟨#[99, 97, 108, 108]⟩))) (.or (.not (.callP 7 [(.var 5)] [.a 0])) (.cmp .ge (.ix (.var 5) (.lit (.int 1))) (.bi .len [(.var 1)])))) [(.ret (.lit .non))] []), (.iff (.cmp .ne (.sl (.ix (.var 0) (.ix (.var 5) (.lit (.int 1)))) none (some (.lit (.int 3)))) (.tup [(.var 2), (.ix (.var 3) (.lit (.int 1))), (.var 4)])) [(.ret (.lit .non))] []), (.ret (.tup [(.ix (.var 3) (.lit (.int 2))), (.ix (.var 1) (.ix (.var 5) (.lit (.int 1))))]))]⟩,
  ⟨14, [(.asg (.tup [(.var 5), (.var 6), (.var 7), (.var 8), (.var 9)]) (.var 3)), (.asg (.var 10) (.callP 5 [(.var 0), (.var 7), (.var 5)] [.a 0, .a 1, .a 2])), (.forr (.tup [(.var 11), (.var 12)]) (.enum (.var 4)) [(.iff (.isi (.var 12) [.tuple]) [(.asg (.var 13) (.callP 14 [(.var 1), (.var 2), (.var 6), (.ix (.var 10) (.var 8)), (.var 9), (.var 12)] [.a 0, .a 1, .a 2, .a 3, .a 4, .a 5]))] [(.asg (.var 13) (.callP 13 [(.ix (.var 0) (.lit (.int 0))), (.ix (.var 10) (.var 8)), (.var 9), (.var 12)] [.a 0, .a 1, .a 2, .a 3]))]), (.iff (.cmp .isN (.var 13) (.lit .non)) [(.ret (.tup [(.var 8), (.var 9), (.var 11)]))] []), (.asg (.tup [(.var 8), (.var 9)]) (.var 13))]), (.ret (.tup [(.var 8), (.var 9), (.bi .len [(.var 4)])]))]⟩,
  ⟨11, [(.asg (.var 2) (.lst [])), (.forr (.tup [(.var 3), (.tup [(.var 4), (.var 5), (.var 6), (.var 7)])]) (.enum (.var 1)) [(.asg (.tup [(.var 8), (.var 9), (.var 10)]) (.callP 15 [(.var 0), (.var 1), (.var 2), (.tup [(.var 4), (.var 4), (.var 5), (.lit (.int 0)), (.var 6)]), (.var 7)] [.a 0, .a 1, .a 2, .a 3, .a 4])), (.iff (.or (.cmp .lt (.var 10) (.bi .len [(.var 7)])) (.cmp .ne (.ix (.ix (.callP 5 [(.var 0), (.var 5), (.var 4)] [.a 0, .a 1, .a 2]) (.var 8)) (.lit (.int 0))) (.lit (.str ⟨#[114, 101, 116, 117, 114, 110]⟩)))) [(.ret (.tup [(.var 2), (.tup [(.var 3), (.var 10)])]))] []), (.expr (.mt .append (.var 2) [(.var 9)]))]), (.ret (.tup [(.var 2), (.lit .non)]))]⟩,
  ⟨6, [(.setF (.var 0) 5 (.var 1)), (.setF (.var 0) 6 (.var 2)), (.setF (.var 0) 7 (.ix (.call 16 [(.var 1), (.var 2)] [.a 0, .a 1]) (.lit (.int 0)))), (.setF (.var 0) 8 (.var 3)), (.setF (.var 0) 9 (.bi .list [(.var 4)])), (.setF (.var 0) 10 (.var 5))]⟩,
  ⟨4, [(.iff (.cmp .eq (.fld (.var 0) 9) (.lst [])) [(.ret (.lit .non))] []), (.asg (.tup [(.var 1), (.var 2), (.var 3)]) (.ix (.fld (.var 0) 9) (.neg (.lit (.int 1))))), (.ret (.ix (.callP 5 [(.fld (.var 0) 5), (.var 1), (.var 2)] [.a 0, .a 1, .a 2]) (.var 3)))]⟩,
  ⟨1, [(.ret (.ite (.fld (.var 0) 10) (.lit (.str ⟨#[110, 101, 119]⟩)) (.lit (.str ⟨#[111, 108, 100]⟩))))]⟩,
  ⟨7, [(.asg (.var 2) (.omth 1 (.var 0) [] [(18, [.a 0])])), (.iff (.cmp .isN (.var 2) (.lit .non)) [(.ret (.lit (.bl false)))] []), (.iff (.and (.isi (.var 1) [.tuple]) (.cmp .eq (.bi .len [(.var 1)]) (.lit (.int 1)))) [(.ret (.omth 4 (.var 0) [(.var 2), (.ix (.var 1) (.lit (.int 0)))] [(21, [.a 0, .a 1, .a 2])]))] []), (.iff (.isi (.var 1) [.tuple]) [(.asg (.var 3) (.callP 14 [(.fld (.var 0) 6), (.fld (.var 0) 7), (.omth 2 (.var 0) [] [(19, [.a 0])]), (.var 2), (.fld (.var 0) 8), (.var 1)] [.a 0, .a 1, .a 2, .a 3, .a 4, .a 5]))] [(.asg (.var 3) (.callP 13 [(.ix (.fld (.var 0) 5) (.lit (.int 0))), (.var 2), (.fld (.var 0) 8), (.var 1)] [.a 0, .a 1, .a 2, .a 3]))]), (.iff (.cmp .isN (.var 3) (.lit .non)) [(.ret (.lit (.bl false)))] []), (.asg (.tup [(.var 4), (.var 5), (.var 6)]) (.ix (.fld (.var 0) 9) (.neg (.lit (.int 1))))), (.setI (.fld (.var 0) 9) (.neg (.lit (.int 1))) (.tup [(.var 4), (.var 5), (.ix (.var 3) (.lit (.int 0)))])), (.setF (.var 0) 8 (.ix (.var 3) (.lit (.int 1)))), (.ret (.lit (.bl true)))]⟩,
  ⟨6, [(.iff (.and (.cmp .eq (.var 2) (.lit (.str ⟨#[115, 119, 97, 112]⟩))) (.and (.not (.fld (.var 0) 10)) (.cmp .ne (.ix (.var 1) (.lit (.int 0))) (.lit (.str ⟨#[98, 97, 100]⟩))))) [(.setF (.var 0) 8 (.callP 4 [(.fld (.var 0) 5), (.fld (.var 0) 8)] [.a 0, .a 1])), (.setF (.var 0) 10 (.lit (.bl true))), (.ret (.lit (.bl true)))] []), (.iff (.and (.cmp .eq (.var 2) (.lit (.str ⟨#[105, 110]⟩))) (.cmp .eq (.ix (.var 1) (.lit (.int 0))) (.lit (.str ⟨#[99, 97, 108, 108]⟩)))) [(.asg (.tup [(.var 3), (.var 4), (.var 5)]) (.ix (.fld (.var 0) 9) (.neg (.lit (.int 1))))), (.setI (.fld (.var 0) 9) (.neg (.lit (.int 1))) (.tup [(.var 3), (.var 4), (.ix (.var 1) (.lit (.int 2)))])), (.expr (.mt .append (.fld (.var 0) 9) [(.tup [(.ix (.var 1) (.lit (.int 1))), (.omth 2 (.var 0) [] [(19, [.a 0])]), (.lit (.int 0))])])), (.ret (.lit (.bl true)))] []), (.iff (.and (.cmp .eq (.var 2) (.lit (.str ⟨#[111, 117, 116]⟩))) (.cmp .eq (.ix (.var 1) (.lit (.int 0))) (.lit (.str ⟨#[114, 101, 116, 117, 114, 110]⟩)))) [(.expr (.mt .pop (.fld (.var 0) 9) [])), (.ret (.lit (.bl true)))] []), (.ret (.lit (.bl false)))]⟩,
  ⟨2, [(.ret (.make 0 [(.var 0), (.var 1), (.ix (.var 0) (.lit (.int 1))), (.tup [(.tup [(.lit (.int 0)), (.lit (.str ⟨#[111, 108, 100]⟩)), (.lit (.int 0))])]), (.lit (.bl false))] [.a 0, .a 1, .a 2, .a 3, .a 4, .a 5]))]⟩,
  ⟨4, [(.asg (.var 2) (.call 22 [(.var 0), (.ix (.var 1) (.lit (.int 0)))] [.a 0, .a 1])), (.forr (.var 3) (.seq (.ix (.var 1) (.lit (.int 1)))) [(.expr (.omth 3 (.var 2) [(.var 3)] [(20, [.a 0, .a 1])]))]), (.ret (.tup [(.fld (.var 2) 8), (.bi .tuple [(.fld (.var 2) 9)]), (.fld (.var 2) 10)]))]⟩,
  ⟨3, [(.ret (.cmp .eq (.lc [1, 2] (.tup [(.var 1), (.var 2)]) (.zip (.var 0) (.sl (.var 0) (some (.lit (.int 1))) none) false) [(.cmp .ge (.var 1) (.var 2))] (.lit (.int 1))) (.lst [])))]⟩,
  ⟨3, [(.iff (.not (.isi (.var 1) [.tuple])) [(.ret (.lit (.bl false)))] []), (.forr (.var 2) (.seq (.var 1)) [(.iff (.not (.callP 0 [(.var 2), (.bi .len [(.ix (.var 0) (.lit (.int 2)))])] [.a 0, .a 1])) [(.ret (.lit (.bl false)))] [])]), (.ret (.callP 24 [(.var 1)] [.a 0]))]⟩,
  ⟨2, [(.iff (.or (.not (.isi (.var 1) [.tuple])) (.or (.cmp .ne (.bi .len [(.var 1)]) (.lit (.int 2))) (.not (.callP 0 [(.ix (.var 1) (.lit (.int 0))), (.bi .len [(.ix (.var 0) (.lit (.int 2)))])] [.a 0, .a 1])))) [(.ret (.lit (.bl false)))] []), (.ret (.callP 0 [(.ix (.var 1) (.lit (.int 1))), (.bi .len [(.callP 5 [(.var 0), (.ix (.var 1) (.lit (.int 0)))] [.a 0, .a 1, .d (.str ⟨#[111, 108, 100]⟩)])])] [.a 0, .a 1]))]⟩,
  ⟨3, [(.iff (.not (.isi (.var 1) [.tuple])) [(.ret (.lit (.bl false)))] []), (.forr (.var 2) (.seq (.var 1)) [(.iff (.not (.callP 26 [(.var 0), (.var 2)] [.a 0, .a 1])) [(.ret (.lit (.bl false)))] [])]), (.ret (.callP 24 [(.var 1)] [.a 0]))]⟩,
  ⟨2, [(.iff (.or (.not (.isi (.var 1) [.tuple])) (.cmp .ne (.bi .len [(.var 1)]) (.lit (.int 2)))) [(.ret (.lit (.bl false)))] []), (.ret (.and (.callP 25 [(.var 0), (.ix (.var 1) (.lit (.int 0)))] [.a 0, .a 1]) (.callP 27 [(.var 0), (.ix (.var 1) (.lit (.int 1)))] [.a 0, .a 1])))]⟩,
  ⟨3, [(.iff (.or (.not (.isi (.var 1) [.tuple])) (.cmp .ne (.bi .len [(.var 1)]) (.bi .len [(.ix (.var 0) (.lit (.int 2)))]))) [(.ret (.lit (.bl false)))] []), (.forr (.var 2) (.seq (.var 1)) [(.iff (.not (.callP 0 [(.var 2), (.bin .add (.lit (.int 99)) (.lit (.int 1)))] [.a 0, .a 1])) [(.ret (.lit (.bl false)))] [])]), (.ret (.lit (.bl true)))]⟩,
  ⟨4, [(.asg (.var 1) (.lst [])), (.forr (.var 2) (.range1 (.bi .len [(.ix (.var 0) (.lit (.int 2)))])) [(.aug 1 .add (.lc [3] (.var 3) (.range1 (.bi .len [(.callP 5 [(.var 0), (.var 2)] [.a 0, .a 1, .d (.str ⟨#[111, 108, 100]⟩)])])) [] (.tup [(.var 2), (.var 3)])))]), (.ret (.bi .tuple [(.var 1)]))]⟩,
  ⟨4, [(.asg (.var 1) (.lst [(.tup [])])), (.forr (.var 2) (.range1 (.bi .len [(.ix (.var 0) (.lit (.int 2)))])) [(.aug 1 .add (.lc [3] (.var 3) (.seq (.var 1)) [] (.bin .add (.var 3) (.tup [(.var 2)]))))]), (.ret (.bi .tuple [(.bi .sorted [(.var 1)])]))]⟩,
  ⟨4, [(.ret (.and (.cmp .mem (.tup [(.var 2), (.var 3)]) (.ix (.var 1) (.lit (.int 1)))) (.cmp .ne (.ix (.ix (.callP 5 [(.var 0), (.var 2)] [.a 0, .a 1, .d (.str ⟨#[111, 108, 100]⟩)]) (.var 3)) (.lit (.int 0))) (.lit (.str ⟨#[98, 97, 100]⟩)))))]⟩,
  ⟨3, [(.ret (.cmp .ne (.lc [2] (.var 2) (.seq (.var 1)) [(.cmp .mem (.var 2) (.ix (.var 0) (.lit (.int 0))))] (.var 2)) (.lst [])))]⟩,
  ⟨7, [(.asg (.tup [(.var 3), (.var 4), (.var 5)]) (.var 2)), (.iff (.or (.var 5) (.or (.cmp .eq (.var 4) (.tup [])) (.callP 33 [(.var 1), (.lc [6] (.var 6) (.seq (.var 4)) [] (.ix (.var 6) (.lit (.int 0))))] [.a 0, .a 1]))) [(.ret (.lit (.bl false)))] []), (.ret (.callP 32 [(.var 0), (.var 1), (.ix (.ix (.var 4) (.neg (.lit (.int 1)))) (.lit (.int 0))), (.ix (.ix (.var 4) (.neg (.lit (.int 1)))) (.lit (.int 2)))] [.a 0, .a 1, .a 2, .a 3]))]⟩,
  ⟨6, [(.asg (.var 3) (.call 22 [(.var 0), (.ix (.var 2) (.lit (.int 0)))] [.a 0, .a 1])), (.forr (.tup [(.var 4), (.var 5)]) (.enum (.ix (.var 2) (.lit (.int 1)))) [(.iff (.and (.cmp .eq (.var 5) (.tup [(.lit (.str ⟨#[115, 119, 97, 112]⟩))])) (.not (.callP 34 [(.var 0), (.var 1), (.tup [(.fld (.var 3) 8), (.bi .tuple [(.fld (.var 3) 9)]), (.lit (.bl false))])] [.a 0, .a 1, .a 2]))) [(.ret (.var 4))] []), (.expr (.omth 3 (.var 3) [(.var 5)] [(20, [.a 0, .a 1])]))]), (.ret (.lit .non))]⟩,
  ⟨3, [(.ret (.cmp .isN (.callP 35 [(.var 0), (.var 1), (.var 2)] [.a 0, .a 1, .a 2]) (.lit .non)))]⟩,
  ⟨2, [(.ret (.and (.isi (.var 0) [.tuple]) (.cmp .eq (.bi .len [(.var 0)]) (.var 1))))]⟩,
  ⟨2, [(.ret (.bi .all [(.lc [1] (.var 1) (.range2 (.lit (.int 1)) (.bi .len [(.var 0)])) [] (.cmp .lt (.ix (.var 0) (.bin .sub (.var 1) (.lit (.int 1)))) (.ix (.var 0) (.var 1))))]))]⟩,
  ⟨3, [(.iff (.or (.not (.isi (.var 1) [.tuple])) (.not (.bi .all [(.lc [2] (.var 2) (.seq (.var 1)) [] (.callP 2 [(.var 0), (.var 2)] [.a 0, .a 1]))]))) [(.ret (.lit (.bl false)))] []), (.ret (.callP 38 [(.var 1)] [.a 0]))]⟩,
  ⟨5, [(.iff (.or (.not (.callP 0 [(.var 2), (.bi .len [(.ix (.var 0) (.lit (.int 2)))])] [.a 0, .a 1])) (.not (.callP 0 [(.var 3), (.bi .len [(.callP 5 [(.var 0), (.var 2), (.var 1)] [.a 0, .a 1, .a 2])])] [.a 0, .a 1]))) [(.ret (.lit (.bl false)))] []), (.ret (.callP 2 [(.var 0), (.var 4)] [.a 0, .a 1]))]⟩,
  ⟨4, [(.iff (.not (.isi (.var 2) [.tuple])) [(.ret (.lit (.bl false)))] []), (.forr (.var 3) (.seq (.var 2)) [(.iff (.or (.not (.callP 37 [(.var 3), (.lit (.int 4))] [.a 0, .a 1])) (.not (.callP 40 [(.var 0), (.var 1), (.ix (.var 3) (.lit (.int 0))), (.ix (.var 3) (.lit (.int 1))), (.ix (.var 3) (.lit (.int 2)))] [.a 0, .a 1, .a 2, .a 3, .a 4]))) [(.ret (.lit (.bl false)))] []), (.iff (.not (.callP 39 [(.var 0), (.ix (.var 3) (.lit (.int 3)))] [.a 0, .a 1])) [(.ret (.lit (.bl false)))] [])]), (.ret (.callP 38 [(.lc [3] (.var 3) (.seq (.var 2)) [] (.sl (.var 3) none (some (.lit (.int 3)))))] [.a 0]))]⟩,
  ⟨2, [(.ret (.callP 41 [(.var 0), (.lit (.str ⟨#[111, 108, 100]⟩)), (.var 1)] [.a 0, .a 1, .a 2]))]⟩,
  ⟨2, [(.ret (.and (.callP 37 [(.var 1), (.lit (.int 5))] [.a 0, .a 1]) (.and (.callP 0 [(.ix (.var 1) (.lit (.int 1))), (.lit (.int 2))] [.a 0, .a 1]) (.callP 40 [(.var 0), (.lit (.str ⟨#[111, 108, 100]⟩)), (.ix (.var 1) (.lit (.int 0))), (.ix (.var 1) (.lit (.int 2))), (.ix (.var 1) (.lit (.int 3)))] [.a 0, .a 1, .a 2, .a 3, .a 4]))))]⟩,
  ⟨3, [(.iff (.not (.isi (.var 1) [.tuple])) [(.ret (.lit (.bl false)))] []), (.forr (.var 2) (.seq (.var 1)) [(.iff (.or (.not (.callP 43 [(.var 0), (.var 2)] [.a 0, .a 1])) (.not (.callP 39 [(.var 0), (.ix (.var 2) (.lit (.int 4)))] [.a 0, .a 1]))) [(.ret (.lit (.bl false)))] [])]), (.ret (.callP 38 [(.lc [2] (.var 2) (.seq (.var 1)) [] (.sl (.var 2) none (some (.lit (.int 4)))))] [.a 0]))]⟩,
  ⟨3, [(.iff (.not (.isi (.var 1) [.tuple])) [(.ret (.lit (.bl false)))] []), (.forr (.var 2) (.seq (.var 1)) [(.iff (.or (.not (.callP 43 [(.var 0), (.var 2)] [.a 0, .a 1])) (.not (.callP 0 [(.ix (.var 2) (.lit (.int 4))), (.lit (.int 10001))] [.a 0, .a 1]))) [(.ret (.lit (.bl false)))] [])]), (.ret (.callP 38 [(.lc [2] (.var 2) (.seq (.var 1)) [] (.sl (.var 2) none (some (.lit (.int 4)))))] [.a 0]))]⟩,
  ⟨3, [(.iff (.not (.isi (.var 1) [.tuple])) [(.ret (.lit (.bl false)))] []), (.forr (.var 2) (.seq (.var 1)) [(.iff (.or (.not (.callP 37 [(.var 2), (.lit (.int 5))] [.a 0, .a 1])) (.not (.callP 40 [(.var 0), (.lit (.str ⟨#[111, 108, 100]⟩)), (.ix (.var 2) (.lit (.int 0))), (.ix (.var 2) (.lit (.int 1))), (.ix (.var 2) (.lit (.int 2)))] [.a 0, .a 1, .a 2, .a 3, .a 4]))) [(.ret (.lit (.bl false)))] []), (.iff (.or (.not (.callP 25 [(.var 0), (.ix (.var 2) (.lit (.int 3)))] [.a 0, .a 1])) (.not (.callP 39 [(.var 0), (.ix (.var 2) (.lit (.int 4)))] [.a 0, .a 1]))) [(.ret (.lit (.bl false)))] [])]), (.ret (.callP 38 [(.lc [2] (.var 2) (.seq (.var 1)) [] (.sl (.var 2) none (some (.lit (.int 4)))))] [.a 0]))]⟩,
  ⟨3, [(.ret (.and (.callP 37 [(.var 0), (.var 2)] [.a 0, .a 1]) (.and (.isi (.ix (.var 0) (.lit (.int 0))) [.str]) (.cmp .eq (.ix (.var 0) (.lit (.int 0))) (.var 1)))))]⟩,
  ⟨2, [(.ret (.ite (.cmp .mem (.var 1) (.var 0)) (.var 0) (.bi .tuple [(.bi .sorted [(.bin .add (.bi .list [(.var 0)]) (.lst [(.var 1)]))])])))]⟩,
  ⟨3, [(.ret (.bi .sum [(.lc [2] (.var 2) (.seq (.var 0)) [] (.ix (.var 1) (.var 2)))]))]⟩,
  ⟨6, [(.asg (.tup [(.var 2), (.var 3)]) (.var 1)), (.iff (.cmp .nmem (.tup [(.lit (.str ⟨#[115, 119, 97, 112]⟩))]) (.var 3)) [(.ret (.lit .non))] []), (.asg (.var 4) (.ix (.call 23 [(.var 0), (.tup [(.var 2), (.sl (.var 3) none (some (.never 37)))])] [.a 0, .a 1]) (.lit (.int 1)))), (.ret (.tup [(.tup [(.ix (.ix (.var 4) (.neg (.lit (.int 1)))) (.lit (.int 0))), (.ix (.ix (.var 4) (.neg (.lit (.int 1)))) (.lit (.int 2)))]), (.bi .tuple [(.lc [5] (.var 5) (.seq (.var 4)) [] (.ix (.var 5) (.lit (.int 0))))])]))]⟩,
  ⟨6, [(.asg (.tup [(.var 4), (.var 5)]) (.callP 50 [(.var 0), (.var 1)] [.a 0, .a 1])), (.ret (.and (.cmp .eq (.var 4) (.var 3)) (.not (.callP 33 [(.tup [(.var 2), (.tup [])]), (.var 5)] [.a 0, .a 1]))))]⟩,
  ⟨4, [(.par [2, 3] [(.ix (.var 1) (.lit (.int 0))), (.bi .len [(.var 1)])]), (.iff (.cmp .eq (.var 2) (.lit (.str ⟨#[101, 110, 100, 115]⟩))) [(.iff (.or (.cmp .ne (.var 3) (.lit (.int 5))) (.or (.not (.callP 11 [(.ix (.var 1) (.lit (.int 1)))] [.a 0])) (.not (.callP 40 [(.var 0), (.ix (.var 1) (.lit (.int 1))), (.ix (.var 1) (.lit (.int 2))), (.lit (.int 0)), (.ix (.var 1) (.lit (.int 3)))] [.a 0, .a 1, .a 2, .a 3, .a 4])))) [(.ret (.lit (.bl false)))] []), (.ret (.callP 39 [(.var 0), (.ix (.var 1) (.lit (.int 4)))] [.a 0, .a 1]))] []), (.iff (.cmp .eq (.var 2) (.lit (.str ⟨#[114, 101, 109, 97, 105, 110, 100, 101, 114, 115]⟩))) [(.iff (.or (.cmp .ne (.var 3) (.lit (.int 5))) (.not (.callP 40 [(.var 0), (.lit (.str ⟨#[111, 108, 100]⟩)), (.ix (.var 1) (.lit (.int 1))), (.ix (.var 1) (.lit (.int 2))), (.ix (.var 1) (.lit (.int 3)))] [.a 0, .a 1, .a 2, .a 3, .a 4]))) [(.ret (.lit (.bl false)))] []), (.ret (.callP 39 [(.var 0), (.ix (.var 1) (.lit (.int 4)))] [.a 0, .a 1]))] []), (.iff (.cmp .mem (.var 2) (.tup [(.lit (.str ⟨#[115, 97, 102, 101]⟩)), (.lit (.str ⟨#[114, 101, 99, 117, 114, 115]⟩))])) [(.ret (.and (.cmp .eq (.var 3) (.lit (.int 2))) (.callP 28 [(.var 0), (.ix (.var 1) (.lit (.int 1)))] [.a 0, .a 1])))] []), (.iff (.cmp .eq (.var 2) (.lit (.str ⟨#[108, 101, 97, 115, 116]⟩))) [(.iff (.or (.cmp .ne (.var 3) (.lit (.int 4))) (.or (.not (.callP 27 [(.var 0), (.ix (.var 1) (.lit (.int 1)))] [.a 0, .a 1])) (.not (.callP 29 [(.var 0), (.ix (.var 1) (.lit (.int 2)))] [.a 0, .a 1])))) [(.ret (.lit (.bl false)))] []), (.ret (.callP 0 [(.ix (.var 1) (.lit (.int 3))), (.lit (.int 401))] [.a 0, .a 1]))] []), (.iff (.cmp .eq (.var 2) (.lit (.str ⟨#[108, 111, 115, 116]⟩))) [(.ret (.and (.cmp .eq (.var 3) (.lit (.int 2))) (.callP 27 [(.var 0), (.ix (.var 1) (.lit (.int 1)))] [.a 0, .a 1])))] []), (.ret (.and (.cmp .eq (.var 2) (.lit (.str ⟨#[104, 111, 112, 101, 108, 101, 115, 115]⟩))) (.cmp .eq (.var 3) (.lit (.int 1)))))]⟩,
  ⟨2, [(.iff (.or (.not (.isi (.var 1) [.tuple])) (.or (.cmp .eq (.var 1) (.tup [])) (.not (.isi (.ix (.var 1) (.lit (.int 0))) [.str])))) [(.ret (.lit (.bl false)))] []), (.ret (.callP 52 [(.var 0), (.var 1)] [.a 0, .a 1]))]⟩,
  ⟨2, [(.ret (.dc [1] (.var 1) (.seq (.var 0)) [] (.sl (.var 1) none (some (.lit (.int 3)))) (.ix (.var 1) (.lit (.int 3)))))]⟩,
  ⟨10, [(.asg (.tup [(.var 4), (.var 5), (.var 6)]) (.var 2)), (.asg (.var 7) (.ix (.callP 5 [(.var 0), (.var 4), (.var 1)] [.a 0, .a 1, .a 2]) (.var 5))), (.iff (.cmp .ne (.ix (.var 7) (.lit (.int 0))) (.lit (.str ⟨#[99, 97, 108, 108]⟩))) [(.ret (.callP 6 [(.var 0), (.var 4), (.var 5), (.var 6), (.var 1)] [.a 0, .a 1, .a 2, .a 3, .a 4]))] []), (.asg (.var 8) (.mt .get1 (.var 3) [(.tup [(.ix (.var 7) (.lit (.int 1))), (.lit (.int 0)), (.var 6)])])), (.ret (.ite (.cmp .isN (.var 8) (.lit .non)) (.lit .non) (.bi .tuple [(.lc [9] (.var 9) (.seq (.var 8)) [] (.tup [(.ix (.var 7) (.lit (.int 2))), (.var 9)]))])))]⟩,
  ⟨14, [(.asg (.tup [(.var 6), (.var 7), (.var 8), (.var 9)]) (.var 2)), (.asg (.var 10) (.ix (.ix (.callP 5 [(.var 0), (.var 6), (.var 1)] [.a 0, .a 1, .a 2]) (.var 7)) (.lit (.int 0)))), (.iff (.and (.cmp .eq (.var 10) (.lit (.str ⟨#[98, 97, 100]⟩))) (.var 5)) [(.ret (.lit (.str ⟨#[104, 97, 114, 109]⟩)))] []), (.asg (.var 11) (.callP 55 [(.var 0), (.var 1), (.sl (.var 2) none (some (.lit (.int 3)))), (.var 4)] [.a 0, .a 1, .a 2, .a 3])), (.iff (.or (.cmp .isN (.var 11) (.lit .non)) (.not (.bi .all [(.lc [12] (.var 12) (.seq (.var 11)) [] (.cmp .mem (.bin .add (.tup [(.var 6)]) (.var 12)) (.var 3)))]))) [(.ret (.lit (.str ⟨#[108, 101, 97, 100]⟩)))] []), (.iff (.and (.cmp .eq (.var 10) (.lit (.str ⟨#[114, 101, 116, 117, 114, 110]⟩))) (.cmp .nmem (.var 8) (.var 9))) [(.ret (.lit (.str ⟨#[101, 110, 100]⟩)))] []), (.forr (.var 12) (.seq (.var 11)) [(.iff (.not (.bi .all [(.lc [13] (.var 13) (.seq (.ix (.var 3) (.bin .add (.tup [(.var 6)]) (.var 12)))) [] (.cmp .mem (.var 13) (.var 9)))])) [(.ret (.lit (.str ⟨#[101, 110, 100]⟩)))] [])]), (.ret (.lit .non))]⟩,
  ⟨9, [(.asg (.var 5) (.call 54 [(.var 2)] [.a 0])), (.forr (.tup [(.var 6), (.var 7)]) (.enum (.var 2)) [(.asg (.var 8) (.callP 56 [(.var 0), (.var 1), (.var 7), (.var 5), (.var 3), (.var 4)] [.a 0, .a 1, .a 2, .a 3, .a 4, .a 5])), (.iff (.cmp .notN (.var 8) (.lit .non)) [(.ret (.tup [(.var 8), (.var 6)]))] [])]), (.ret (.lit .non))]⟩,
  ⟨4, [(.ret (.callP 57 [(.var 0), (.var 1), (.var 2), (.call 54 [(.var 2)] [.a 0]), (.var 3)] [.a 0, .a 1, .a 2, .a 3, .a 4]))]⟩,
  ⟨3, [(.ret (.callP 57 [(.var 0), (.lit (.str ⟨#[111, 108, 100]⟩)), (.var 1), (.call 54 [(.var 2)] [.a 0]), (.lit (.bl true))] [.a 0, .a 1, .a 2, .a 3, .a 4]))]⟩,
  ⟨2, [(.ret (.ite (.cmp .isN (.var 1) (.lit .non)) (.lit .non) (.tup [(.var 0), (.var 1)])))]⟩,
  ⟨2, [(.iff (.or (.not (.callP 37 [(.var 1), (.lit (.int 4))] [.a 0, .a 1])) (.not (.callP 41 [(.var 0), (.lit (.str ⟨#[111, 108, 100]⟩)), (.ix (.var 1) (.lit (.int 0)))] [.a 0, .a 1, .a 2]))) [(.ret (.lit (.bl false)))] []), (.iff (.or (.not (.callP 41 [(.var 0), (.lit (.str ⟨#[110, 101, 119]⟩)), (.ix (.var 1) (.lit (.int 1)))] [.a 0, .a 1, .a 2])) (.not (.callP 42 [(.var 0), (.ix (.var 1) (.lit (.int 2)))] [.a 0, .a 1]))) [(.ret (.lit (.bl false)))] []), (.ret (.callP 46 [(.var 0), (.ix (.var 1) (.lit (.int 3)))] [.a 0, .a 1]))]⟩,
  ⟨2, [(.iff (.or (.not (.callP 37 [(.var 1), (.lit (.int 3))] [.a 0, .a 1])) (.not (.callP 41 [(.var 0), (.lit (.str ⟨#[111, 108, 100]⟩)), (.ix (.var 1) (.lit (.int 0)))] [.a 0, .a 1, .a 2]))) [(.ret (.lit (.bl false)))] []), (.ret (.and (.callP 44 [(.var 0), (.ix (.var 1) (.lit (.int 1)))] [.a 0, .a 1]) (.callP 45 [(.var 0), (.ix (.var 1) (.lit (.int 2)))] [.a 0, .a 1])))]⟩,
  ⟨2, [(.ret (.dc [1] (.var 1) (.seq (.var 0)) [] (.sl (.var 1) none (some (.neg (.lit (.int 1))))) (.ix (.var 1) (.neg (.lit (.int 1))))))]⟩,
  ⟨3, [(.ret (.ite (.or (.cmp .eq (.var 1) (.lit (.int 1))) (.cmp .mem (.var 2) (.ix (.var 0) (.lit (.int 0))))) (.lit (.int 1)) (.lit (.int 0))))]⟩,
  ⟨18, [(.asg (.tup [(.var 6), (.var 7), (.var 8), (.var 9), (.var 10)]) (.var 2)), (.asg (.tup [(.var 11), (.var 12)]) (.tup [(.ix (.callP 5 [(.var 0), (.var 6)] [.a 0, .a 1, .d (.str ⟨#[111, 108, 100]⟩)]) (.var 7)), (.lst [])])), (.iff (.and (.callP 32 [(.var 0), (.var 1), (.var 6), (.var 7)] [.a 0, .a 1, .a 2, .a 3]) (.not (.callP 33 [(.var 1), (.bin .add (.var 9) (.tup [(.var 6)]))] [.a 0, .a 1]))) [(.expr (.mt .append (.var 12) [(.mt .get1 (.var 4) [(.tup [(.var 6), (.var 7), (.callP 4 [(.var 0), (.var 8)] [.a 0, .a 1])])])]))] []), (.iff (.cmp .ne (.ix (.var 11) (.lit (.int 0))) (.lit (.str ⟨#[99, 97, 108, 108]⟩))) [(.asg (.var 13) (.callP 6 [(.var 0), (.var 6), (.var 7), (.var 8)] [.a 0, .a 1, .a 2, .a 3, .d (.str ⟨#[111, 108, 100]⟩)])), (.ret (.bin .add (.var 12) (.lc [14] (.var 14) (.seq (.var 13)) [] (.mt .get1 (.var 5) [(.bin .add (.bin .add (.tup [(.var 6)]) (.var 14)) (.tup [(.var 9)]))]))))] []), (.asg (.var 15) (.mt .get1 (.var 5) [(.tup [(.ix (.var 11) (.lit (.int 1))), (.lit (.int 0)), (.var 8), (.callP 48 [(.var 9), (.var 6)] [.a 0, .a 1])])])), (.asg (.var 16) (.mt .get1 (.var 3) [(.tup [(.ix (.var 11) (.lit (.int 1))), (.lit (.int 0)), (.var 8)])])), (.iff (.or (.cmp .isN (.var 15) (.lit .non)) (.cmp .isN (.var 16) (.lit .non))) [(.ret (.lst [(.lit .non)]))] []), (.asg (.var 12) (.bin .add (.var 12) (.lc [17] (.var 17) (.seq (.var 15)) [] (.mt .get1 (.var 4) [(.tup [(.var 6), (.ix (.var 11) (.lit (.int 2))), (.var 17)])])))), (.ret (.bin .add (.var 12) (.lc [17] (.var 17) (.seq (.var 16)) [] (.mt .get1 (.var 5) [(.tup [(.var 6), (.ix (.var 11) (.lit (.int 2))), (.var 17), (.var 9)])]))))]⟩,
  ⟨11, [(.par [3, 4, 5] [(.call 54 [(.ix (.var 2) (.lit (.int 0)))] [.a 0]), (.call 54 [(.ix (.var 2) (.lit (.int 2)))] [.a 0]), (.call 63 [(.ix (.var 2) (.lit (.int 3)))] [.a 0])]), (.forr (.tup [(.var 6), (.var 7)]) (.enum (.ix (.var 2) (.lit (.int 3)))) [(.iff (.cmp .eq (.ix (.ix (.callP 5 [(.var 0), (.ix (.var 7) (.lit (.int 0)))] [.a 0, .a 1, .d (.str ⟨#[111, 108, 100]⟩)]) (.ix (.var 7) (.lit (.int 1)))) (.lit (.int 0))) (.lit (.str ⟨#[98, 97, 100]⟩))) [(.ret (.tup [(.lit (.str ⟨#[104, 97, 114, 109]⟩)), (.var 6)]))] []), (.asg (.var 8) (.call 65 [(.var 0), (.var 1), (.var 7), (.var 3), (.var 4), (.var 5)] [.a 0, .a 1, .a 2, .a 3, .a 4, .a 5])), (.iff (.cmp .mem (.lit .non) (.var 8)) [(.ret (.tup [(.lit (.str ⟨#[108, 101, 97, 100]⟩)), (.var 6)]))] []), (.iff (.not (.bi .all [(.lc [10] (.var 10) (.seq (.var 8)) [] (.bi .all [(.lc [9] (.var 9) (.seq (.var 10)) [] (.cmp .mem (.var 9) (.ix (.var 7) (.lit (.int 4)))))]))])) [(.ret (.tup [(.lit (.str ⟨#[101, 110, 100]⟩)), (.var 6)]))] [])]), (.ret (.lit .non))]⟩,
  ⟨8, [(.asg (.tup [(.var 3), (.var 4), (.var 5), (.var 6)]) (.var 2)), (.asg (.var 7) (.callP 60 [(.lit (.str ⟨#[111, 108, 100, 115]⟩)), (.callP 58 [(.var 0), (.lit (.str ⟨#[111, 108, 100]⟩)), (.var 3), (.lit (.bl false))] [.a 0, .a 1, .a 2, .a 3])] [.a 0, .a 1])), (.iff (.cmp .isN (.var 7) (.lit .non)) [(.asg (.var 7) (.callP 60 [(.lit (.str ⟨#[110, 101, 119, 115]⟩)), (.callP 58 [(.var 0), (.lit (.str ⟨#[110, 101, 119]⟩)), (.var 4), (.lit (.bl true))] [.a 0, .a 1, .a 2, .a 3])] [.a 0, .a 1]))] []), (.iff (.cmp .isN (.var 7) (.lit .non)) [(.asg (.var 7) (.callP 60 [(.lit (.str ⟨#[114, 101, 109, 97, 105, 110, 100, 101, 114, 115]⟩)), (.callP 59 [(.var 0), (.var 5), (.var 4)] [.a 0, .a 1, .a 2])] [.a 0, .a 1]))] []), (.iff (.and (.cmp .isN (.var 7) (.lit .non)) (.cmp .nmem (.tup [(.lit (.int 0)), (.lit (.int 0)), (.ix (.var 0) (.lit (.int 1))), (.tup [])]) (.call 63 [(.var 6)] [.a 0]))) [(.asg (.var 7) (.tup [(.lit (.str ⟨#[115, 116, 97, 114, 116]⟩))]))] []), (.ret (.ite (.cmp .isN (.var 7) (.lit .non)) (.callP 66 [(.var 0), (.var 1), (.var 2)] [.a 0, .a 1, .a 2]) (.var 7)))]⟩,
  ⟨15, [(.asg (.tup [(.var 4), (.var 5), (.var 6), (.var 7), (.var 8)]) (.var 2)), (.asg (.var 9) (.ix (.callP 5 [(.var 0), (.var 4)] [.a 0, .a 1, .d (.str ⟨#[111, 108, 100]⟩)]) (.var 6))), (.iff (.and (.cmp .eq (.var 5) (.lit (.int 0))) (.callP 32 [(.var 0), (.var 1), (.var 4), (.var 6)] [.a 0, .a 1, .a 2, .a 3])) [(.ret (.lit .non))] []), (.asg (.var 10) (.callP 6 [(.var 0), (.var 4), (.var 6), (.var 7)] [.a 0, .a 1, .a 2, .a 3, .d (.str ⟨#[111, 108, 100]⟩)])), (.iff (.cmp .eq (.ix (.var 9) (.lit (.int 0))) (.lit (.str ⟨#[99, 97, 108, 108]⟩))) [(.asg (.var 11) (.mt .get1 (.var 3) [(.tup [(.ix (.var 9) (.lit (.int 1))), (.callP 64 [(.var 1), (.var 5), (.ix (.var 9) (.lit (.int 1)))] [.a 0, .a 1, .a 2]), (.lit (.int 0)), (.var 7)])])), (.iff (.cmp .isN (.var 11) (.lit .non)) [(.ret (.lit (.str ⟨#[108, 101, 97, 100]⟩)))] []), (.asg (.var 10) (.lc [12] (.var 12) (.seq (.var 11)) [] (.tup [(.ix (.var 9) (.lit (.int 2))), (.var 12)])))] []), (.asg (.var 13) (.lc [14] (.var 14) (.seq (.var 10)) [] (.mt .get1 (.var 3) [(.bin .add (.tup [(.var 4), (.var 5)]) (.var 14))]))), (.iff (.cmp .mem (.lit .non) (.var 13)) [(.ret (.lit (.str ⟨#[108, 101, 97, 100]⟩)))] []), (.iff (.and (.cmp .eq (.ix (.var 9) (.lit (.int 0))) (.lit (.str ⟨#[114, 101, 116, 117, 114, 110]⟩))) (.cmp .nmem (.var 7) (.var 8))) [(.ret (.lit (.str ⟨#[101, 110, 100]⟩)))] []), (.ret (.ite (.bi .all [(.lc [11] (.var 11) (.seq (.var 13)) [] (.bi .all [(.lc [12] (.var 12) (.seq (.var 11)) [] (.cmp .mem (.var 12) (.var 8)))]))]) (.lit .non) (.lit (.str ⟨#[101, 110, 100]⟩))))]⟩,
  ⟨7, [(.asg (.var 3) (.call 63 [(.var 2)] [.a 0])), (.forr (.tup [(.var 4), (.var 5)]) (.enum (.var 2)) [(.asg (.var 6) (.callP 68 [(.var 0), (.var 1), (.var 5), (.var 3)] [.a 0, .a 1, .a 2, .a 3])), (.iff (.cmp .notN (.var 6) (.lit .non)) [(.ret (.tup [(.var 6), (.var 4)]))] [])]), (.ret (.lit .non))]⟩,
  ⟨21, [(.asg (.tup [(.var 6), (.var 7), (.var 8), (.var 9), (.var 10)]) (.var 2)), (.asg (.var 11) (.ix (.callP 5 [(.var 0), (.var 6)] [.a 0, .a 1, .d (.str ⟨#[111, 108, 100]⟩)]) (.var 8))), (.asg (.var 12) (.and (.cmp .eq (.var 7) (.lit (.int 0))) (.callP 32 [(.var 0), (.var 1), (.var 6), (.var 8)] [.a 0, .a 1, .a 2, .a 3]))), (.asg (.var 13) (.lc [14] (.var 14) (.seq (.callP 6 [(.var 0), (.var 6), (.var 8), (.var 9)] [.a 0, .a 1, .a 2, .a 3, .d (.str ⟨#[111, 108, 100]⟩)])) [] (.bin .add (.tup [(.var 6), (.var 7)]) (.var 14)))), (.asg (.var 15) (.lst [])), (.iff (.cmp .eq (.ix (.var 11) (.lit (.int 0))) (.lit (.str ⟨#[99, 97, 108, 108]⟩))) [(.asg (.var 16) (.tup [(.ix (.var 11) (.lit (.int 1))), (.callP 64 [(.var 1), (.var 7), (.ix (.var 11) (.lit (.int 1)))] [.a 0, .a 1, .a 2]), (.lit (.int 0)), (.var 9)])), (.par [17, 18] [(.mt .get1 (.var 3) [(.tup [(.ix (.var 11) (.lit (.int 1))), (.lit (.int 0)), (.var 9)])]), (.ite (.var 12) (.tup []) (.mt .get1 (.var 4) [(.var 16)]))]), (.iff (.or (.cmp .isN (.var 17) (.lit .non)) (.cmp .isN (.var 18) (.lit .non))) [(.ret (.lit (.str ⟨#[108, 101, 97, 100]⟩)))] []), (.asg (.var 15) (.lc [19] (.var 19) (.seq (.var 17)) [] (.tup [(.var 6), (.var 7), (.ix (.var 11) (.lit (.int 2))), (.var 19)]))), (.asg (.var 13) (.bin .add (.lst [(.var 16)]) (.lc [19] (.var 19) (.seq (.var 18)) [] (.tup [(.var 6), (.var 7), (.ix (.var 11) (.lit (.int 2))), (.var 19)]))))] []), (.iff (.not (.bi .all [(.lc [20] (.var 20) (.seq (.bin .add (.var 13) (.var 15))) [] (.cmp .mem (.var 20) (.var 5)))])) [(.ret (.lit (.str ⟨#[108, 101, 97, 100]⟩)))] []), (.ret (.ite (.or (.var 12) (.bi .all [(.lc [20] (.var 20) (.seq (.var 13)) [] (.cmp .lt (.ix (.var 5) (.var 20)) (.var 10)))])) (.lit .non) (.lit (.str ⟨#[114, 97, 110, 107]⟩))))]⟩,
  ⟨13, [(.asg (.tup [(.var 3), (.var 4), (.var 5)]) (.var 2)), (.asg (.var 6) (.callP 60 [(.lit (.str ⟨#[111, 108, 100, 115]⟩)), (.callP 58 [(.var 0), (.lit (.str ⟨#[111, 108, 100]⟩)), (.var 3), (.lit (.bl false))] [.a 0, .a 1, .a 2, .a 3])] [.a 0, .a 1])), (.iff (.cmp .isN (.var 6) (.lit .non)) [(.asg (.var 6) (.callP 60 [(.lit (.str ⟨#[115, 105, 108, 101, 110, 116, 115]⟩)), (.callP 69 [(.var 0), (.var 1), (.var 4)] [.a 0, .a 1, .a 2])] [.a 0, .a 1]))] []), (.iff (.cmp .notN (.var 6) (.lit .non)) [(.ret (.var 6))] []), (.par [7, 8, 9] [(.call 63 [(.var 5)] [.a 0]), (.call 54 [(.var 3)] [.a 0]), (.call 63 [(.var 4)] [.a 0])]), (.iff (.cmp .nmem (.tup [(.lit (.int 0)), (.callP 64 [(.var 1), (.lit (.int 0)), (.lit (.int 0))] [.a 0, .a 1, .a 2]), (.lit (.int 0)), (.ix (.var 0) (.lit (.int 1)))]) (.var 7)) [(.ret (.tup [(.lit (.str ⟨#[115, 116, 97, 114, 116]⟩))]))] []), (.forr (.tup [(.var 10), (.var 11)]) (.enum (.var 5)) [(.asg (.var 12) (.callP 70 [(.var 0), (.var 1), (.var 11), (.var 8), (.var 9), (.var 7)] [.a 0, .a 1, .a 2, .a 3, .a 4, .a 5])), (.iff (.cmp .notN (.var 12) (.lit .non)) [(.ret (.tup [(.var 12), (.var 10)]))] [])]), (.ret (.lit .non))]⟩,
  ⟨2, [(.ret (.and (.callP 37 [(.var 1), (.lit (.int 2))] [.a 0, .a 1]) (.and (.callP 12 [(.var 0), (.ix (.var 1) (.lit (.int 0)))] [.a 0, .a 1]) (.callP 10 [(.ix (.var 1) (.lit (.int 1)))] [.a 0]))))]⟩,
  ⟨2, [(.iff (.or (.not (.callP 37 [(.var 1), (.lit (.int 2))] [.a 0, .a 1])) (.not (.callP 72 [(.var 0), (.ix (.var 1) (.lit (.int 0)))] [.a 0, .a 1]))) [(.ret (.lit (.bl false)))] []), (.ret (.and (.callP 10 [(.ix (.var 1) (.lit (.int 1)))] [.a 0]) (.cmp .ne (.ix (.var 1) (.lit (.int 1))) (.tup []))))]⟩,
  ⟨6, [(.asg (.var 2) (.ix (.call 16 [(.var 0), (.ix (.var 1) (.lit (.int 0)))] [.a 0, .a 1]) (.lit (.int 1)))), (.iff (.cmp .notN (.var 2) (.lit .non)) [(.ret (.bin .add (.tup [(.lit (.str ⟨#[114, 111, 119]⟩))]) (.var 2)))] []), (.asg (.var 3) (.call 22 [(.var 0), (.ix (.var 1) (.lit (.int 0)))] [.a 0, .a 1])), (.forr (.tup [(.var 4), (.var 5)]) (.enum (.ix (.var 1) (.lit (.int 1)))) [(.iff (.not (.omth 3 (.var 3) [(.var 5)] [(20, [.a 0, .a 1])])) [(.ret (.tup [(.lit (.str ⟨#[109, 111, 118, 101]⟩)), (.var 4)]))] [])]), (.ret (.lit .non))]⟩,
  ⟨5, [(.iff (.cmp .eq (.var 1) (.tup [])) [(.ret (.lit (.bl false)))] []), (.asg (.tup [(.var 2), (.var 3), (.var 4)]) (.ix (.var 1) (.neg (.lit (.int 1))))), (.ret (.cmp .eq (.ix (.ix (.callP 5 [(.var 0), (.var 2), (.var 3)] [.a 0, .a 1, .a 2]) (.var 4)) (.lit (.int 0))) (.lit (.str ⟨#[98, 97, 100]⟩))))]⟩,
  ⟨3, [(.asg (.var 2) (.callP 74 [(.var 0), (.var 1)] [.a 0, .a 1])), (.iff (.cmp .notN (.var 2) (.lit .non)) [(.ret (.var 2))] []), (.ret (.ite (.callP 75 [(.var 0), (.ix (.call 23 [(.var 0), (.var 1)] [.a 0, .a 1]) (.lit (.int 1)))] [.a 0, .a 1]) (.lit .non) (.lit (.tup [(.str ⟨#[98, 97, 100]⟩)]))))]⟩,
  ⟨5, [(.asg (.var 3) (.callP 74 [(.var 0), (.var 2)] [.a 0, .a 1])), (.iff (.cmp .notN (.var 3) (.lit .non)) [(.ret (.var 3))] []), (.asg (.var 4) (.callP 35 [(.var 0), (.var 1), (.var 2)] [.a 0, .a 1, .a 2])), (.ret (.ite (.cmp .isN (.var 4) (.lit .non)) (.callP 76 [(.var 0), (.var 2)] [.a 0, .a 1]) (.tup [(.lit (.str ⟨#[115, 119, 97, 112]⟩)), (.var 4)])))]⟩,
  ⟨12, [(.asg (.tup [(.var 4), (.var 5), (.var 6), (.var 7)]) (.var 3)), (.par [8, 9] [(.callP 5 [(.var 0), (.var 5), (.var 4)] [.a 0, .a 1, .a 2]), (.lit (.int 0))]), (.asg (.var 10) (.lst [(.var 9)])), (.forr (.var 11) (.seq (.var 7)) [(.iff (.isi (.var 11) [.tuple]) [(.asg (.tup [(.var 9), (.var 6)]) (.callP 14 [(.var 1), (.var 2), (.var 4), (.ix (.var 8) (.var 9)), (.var 6), (.var 11)] [.a 0, .a 1, .a 2, .a 3, .a 4, .a 5]))] [(.asg (.tup [(.var 9), (.var 6)]) (.callP 13 [(.ix (.var 0) (.lit (.int 0))), (.ix (.var 8) (.var 9)), (.var 6), (.var 11)] [.a 0, .a 1, .a 2, .a 3]))]), (.expr (.mt .append (.var 10) [(.var 9)]))]), (.ret (.var 10))]⟩,
  ⟨11, [(.asg (.tup [(.var 3), (.var 4)]) (.tup [(.ix (.call 16 [(.var 0), (.var 2)] [.a 0, .a 1]) (.lit (.int 0))), (.lst [])])), (.forr (.var 5) (.seq (.var 2)) [(.iff (.or (.cmp .eq (.ix (.var 5) (.lit (.int 0))) (.lit (.str ⟨#[110, 101, 119]⟩))) (.cmp .mem (.ix (.var 5) (.lit (.int 1))) (.ix (.var 1) (.lit (.int 0))))) [(.expr (.mt .append (.var 4) [(.tup [(.cmp .eq (.ix (.var 5) (.lit (.int 0))) (.lit (.str ⟨#[111, 108, 100]⟩))), (.cmp .eq (.ix (.var 5) (.lit (.int 0))) (.lit (.str ⟨#[111, 108, 100]⟩)))])])), .cont] []), (.asg (.var 6) (.not (.bi .any [(.lc [7] (.var 7) (.seq (.call 78 [(.var 0), (.var 2), (.var 3), (.var 5)] [.a 0, .a 1, .a 2, .a 3])) [] (.callP 32 [(.var 0), (.var 1), (.ix (.var 5) (.lit (.int 1))), (.var 7)] [.a 0, .a 1, .a 2, .a 3]))]))), (.asg (.var 8) (.lc [9] (.var 9) (.seq (.ix (.var 5) (.lit (.int 3)))) [(.isi (.var 9) [.tuple])] (.ix (.var 9) (.lit (.int 1))))), (.expr (.mt .append (.var 4) [(.tup [(.and (.var 6) (.bi .all [(.lc [10] (.var 10) (.seq (.var 8)) [] (.ix (.ix (.var 4) (.var 10)) (.lit (.int 0))))])), (.lit (.bl true))])]))]), (.ret (.var 4))]⟩,
  ⟨8, [(.asg (.tup [(.tup [(.var 2), (.var 3)]), (.var 4)]) (.var 1)), (.asg (.tup [(.var 5), (.var 6), (.var 7)]) (.call 23 [(.var 0), (.tup [(.var 2), (.var 3)])] [.a 0, .a 1])), (.ret (.make 0 [(.var 0), (.var 2), (.var 5), (.var 6), (.var 7)] [.a 0, .a 1, .a 2, .a 3, .a 4, .a 5]))]⟩,
  ⟨6, [(.asg (.var 2) (.call 80 [(.var 0), (.var 1)] [.a 0, .a 1])), (.asg (.var 3) (.bi .len [(.fld (.var 2) 9)])), (.forr (.tup [(.var 4), (.var 5)]) (.enum (.ix (.var 1) (.lit (.int 1)))) [(.iff (.or (.cmp .eq (.var 5) (.tup [(.lit (.str ⟨#[115, 119, 97, 112]⟩))])) (.or (.not (.omth 3 (.var 2) [(.var 5)] [(20, [.a 0, .a 1])])) (.cmp .lt (.bi .len [(.fld (.var 2) 9)]) (.var 3)))) [(.ret (.tup [(.lit (.str ⟨#[99, 121, 99, 108, 101]⟩)), (.var 4)]))] [])]), (.ret (.lit .non))]⟩,
  ⟨5, [(.asg (.var 2) (.call 80 [(.var 0), (.var 1)] [.a 0, .a 1])), (.asg (.var 3) (.tup [(.ix (.fld (.var 2) 9) (.neg (.lit (.int 1)))), (.fld (.var 2) 8)])), (.forr (.var 4) (.seq (.ix (.var 1) (.lit (.int 1)))) [(.expr (.omth 3 (.var 2) [(.var 4)] [(20, [.a 0, .a 1])]))]), (.ret (.ite (.cmp .eq (.tup [(.ix (.fld (.var 2) 9) (.neg (.lit (.int 1)))), (.fld (.var 2) 8)]) (.var 3)) (.lit .non) (.tup [(.lit (.str ⟨#[98, 97, 99, 107]⟩))])))]⟩,
  ⟨8, [(.par [3, 4] [(.call 80 [(.var 0), (.var 2)] [.a 0, .a 1]), (.call 79 [(.var 0), (.var 1), (.ix (.ix (.var 2) (.lit (.int 0))) (.lit (.int 0)))] [.a 0, .a 1, .a 2])]), (.forr (.tup [(.var 5), (.var 6)]) (.enum (.bin .add (.ix (.var 2) (.lit (.int 1))) (.tup [(.lit .non)]))) [(.iff (.callP 34 [(.var 0), (.var 1), (.tup [(.fld (.var 3) 8), (.bi .tuple [(.fld (.var 3) 9)]), (.lit (.bl false))])] [.a 0, .a 1, .a 2]) [(.ret (.tup [(.lit (.str ⟨#[97, 108, 108, 111, 119, 101, 100]⟩)), (.var 5)]))] []), (.iff (.cmp .eq (.var 5) (.bi .len [(.ix (.var 2) (.lit (.int 1)))])) [(.ret (.lit .non))] []), (.iff (.and (.isi (.var 6) [.tuple]) (.cmp .eq (.ix (.var 6) (.lit (.int 0))) (.lit (.str ⟨#[115, 107, 105, 112]⟩)))) [(.iff (.not (.ix (.ix (.var 4) (.ix (.var 6) (.lit (.int 1)))) (.bi .int [(.callP 33 [(.var 1), (.lc [7] (.var 7) (.seq (.fld (.var 3) 9)) [] (.ix (.var 7) (.lit (.int 0))))] [.a 0, .a 1])]))) [(.ret (.tup [(.lit (.str ⟨#[97, 108, 108, 111, 119, 101, 100]⟩)), (.var 5)]))] [])] []), (.expr (.omth 3 (.var 3) [(.var 6)] [(20, [.a 0, .a 1])]))]), (.ret (.lit .non))]⟩,
  ⟨5, [(.asg (.tup [(.var 2), (.var 3)]) (.var 1)), (.asg (.var 4) (.callP 74 [(.var 0), (.var 2)] [.a 0, .a 1])), (.iff (.and (.cmp .isN (.var 4) (.lit .non)) (.cmp .mem (.tup [(.lit (.str ⟨#[115, 119, 97, 112]⟩))]) (.ix (.var 2) (.lit (.int 1))))) [(.asg (.var 4) (.tup [(.lit (.str ⟨#[115, 119, 97, 112]⟩)), (.never 37)]))] []), (.iff (.and (.cmp .isN (.var 4) (.lit .non)) (.cmp .eq (.ix (.call 23 [(.var 0), (.var 2)] [.a 0, .a 1]) (.lit (.int 1))) (.tup []))) [(.asg (.var 4) (.tup [(.lit (.str ⟨#[102, 105, 110, 105, 115, 104, 101, 100]⟩))]))] []), (.ret (.ite (.cmp .isN (.var 4) (.lit .non)) (.callP 81 [(.var 0), (.var 1)] [.a 0, .a 1]) (.var 4)))]⟩,
  ⟨4, [(.asg (.var 3) (.callP 84 [(.var 0), (.var 2)] [.a 0, .a 1])), (.iff (.cmp .isN (.var 3) (.lit .non)) [(.asg (.var 3) (.callP 83 [(.var 0), (.var 1), (.var 2)] [.a 0, .a 1, .a 2]))] []), (.ret (.ite (.cmp .isN (.var 3) (.lit .non)) (.callP 82 [(.var 0), (.var 2)] [.a 0, .a 1]) (.var 3)))]⟩,
  ⟨3, [(.asg (.var 2) (.callP 84 [(.var 0), (.var 1)] [.a 0, .a 1])), (.ret (.ite (.cmp .isN (.var 2) (.lit .non)) (.callP 82 [(.var 0), (.var 1)] [.a 0, .a 1]) (.var 2)))]⟩,
  ⟨4, [(.iff (.var 1) [(.ret (.ite (.callP 61 [(.var 0), (.var 3)] [.a 0, .a 1]) (.callP 67 [(.var 0), (.ix (.var 2) (.lit (.int 1))), (.var 3)] [.a 0, .a 1, .a 2]) (.lit (.tup [(.str ⟨#[102, 111, 114, 109]⟩)]))))] []), (.ret (.ite (.callP 72 [(.var 0), (.var 3)] [.a 0, .a 1]) (.callP 77 [(.var 0), (.ix (.var 2) (.lit (.int 1))), (.var 3)] [.a 0, .a 1, .a 2]) (.lit (.tup [(.str ⟨#[102, 111, 114, 109]⟩)]))))]⟩,
  ⟨4, [(.iff (.var 1) [(.ret (.ite (.callP 62 [(.var 0), (.var 3)] [.a 0, .a 1]) (.callP 71 [(.var 0), (.ix (.var 2) (.lit (.int 1))), (.var 3)] [.a 0, .a 1, .a 2]) (.lit (.tup [(.str ⟨#[102, 111, 114, 109]⟩)]))))] []), (.ret (.ite (.callP 73 [(.var 0), (.var 3)] [.a 0, .a 1]) (.callP 85 [(.var 0), (.ix (.var 2) (.lit (.int 1))), (.var 3)] [.a 0, .a 1, .a 2]) (.lit (.tup [(.str ⟨#[102, 111, 114, 109]⟩)]))))]⟩,
  ⟨4, [(.ret (.and (.isi (.var 0) [.tuple]) (.and (.cmp .le (.bi .len [(.var 0)]) (.var 1)) (.bi .all [(.lc [3] (.var 3) (.seq (.var 0)) [] (.never 10))]))))]⟩,
  ⟨3, [(.iff (.or (.not (.callP 37 [(.var 1), (.lit (.int 2))] [.a 0, .a 1])) (.not (.callP 89 [(.ix (.var 1) (.lit (.int 0))), (.var 2), (.never 53)] [.a 0, .a 1, .a 2]))) [(.ret (.lit (.bl false)))] []), (.ret (.callP 89 [(.ix (.var 1) (.lit (.int 1))), (.lit (.int 16)), (.never 53)] [.a 0, .a 1, .a 2]))]⟩,
  ⟨6, [(.forr (.tup [(.var 2), (.var 3)]) (.enum (.ix (.var 1) (.lit (.int 0)))) [(.asg (.var 4) (.callP 76 [(.var 0), (.var 3)] [.a 0, .a 1])), (.iff (.cmp .notN (.var 4) (.lit .non)) [(.ret (.tup [(.lit (.str ⟨#[114, 117, 110]⟩)), (.var 2), (.var 4)]))] [])]), (.forr (.tup [(.var 2), (.var 5)]) (.enum (.ix (.var 1) (.lit (.int 1)))) [(.asg (.var 4) (.callP 86 [(.var 0), (.var 5)] [.a 0, .a 1])), (.iff (.cmp .notN (.var 4) (.lit .non)) [(.ret (.tup [(.lit (.str ⟨#[115, 116, 97, 108, 108]⟩)), (.var 2), (.var 4)]))] [])]), (.ret (.lit .non))]⟩,
  ⟨4, [(.ret (.bi .any [(.lc [3] (.var 3) (.seq (.var 2)) [] (.cmp .isN (.callP 85 [(.var 0), (.var 1), (.var 3)] [.a 0, .a 1, .a 2]) (.lit .non)))]))]⟩,
  ⟨8, [(.asg (.var 4) (.callP 91 [(.var 0), (.var 3)] [.a 0, .a 1])), (.iff (.cmp .notN (.var 4) (.lit .non)) [(.ret (.var 4))] []), (.forr (.var 5) (.seq (.var 2)) [(.asg (.var 6) (.tup [(.var 5), (.var 1)])), (.iff (.and (.not (.bi .any [(.lc [7] (.var 7) (.seq (.ix (.var 3) (.lit (.int 0)))) [] (.callP 36 [(.var 0), (.var 6), (.var 7)] [.a 0, .a 1, .a 2]))])) (.not (.callP 92 [(.var 0), (.var 6), (.ix (.var 3) (.lit (.int 1)))] [.a 0, .a 1, .a 2]))) [(.ret (.tup [(.lit (.str ⟨#[119, 97, 105, 116]⟩)), (.var 5)]))] [])]), (.ret (.lit .non))]⟩,
  ⟨5, [(.asg (.var 4) (.callP 60 [(.lit (.str ⟨#[115, 97, 102, 101]⟩)), (.callP 67 [(.var 0), (.var 1), (.var 2)] [.a 0, .a 1, .a 2])] [.a 0, .a 1])), (.ret (.ite (.cmp .isN (.var 4) (.lit .non)) (.callP 60 [(.lit (.str ⟨#[114, 101, 99, 117, 114, 115]⟩)), (.callP 71 [(.var 0), (.var 1), (.var 3)] [.a 0, .a 1, .a 2])] [.a 0, .a 1]) (.var 4)))]⟩,
  ⟨3, [(.ret (.and (.callP 61 [(.var 0), (.var 1)] [.a 0, .a 1]) (.callP 62 [(.var 0), (.var 2)] [.a 0, .a 1])))]⟩,
  ⟨4, [(.ret (.never 21))]⟩,
  ⟨12, [(.asg (.tup [(.var 3), (.var 4), (.var 5), (.var 6)]) (.var 1)), (.iff (.or (.not (.callP 37 [(.var 2), (.lit (.int 4))] [.a 0, .a 1])) (.or (.not (.callP 25 [(.var 0), (.ix (.var 2) (.lit (.int 0)))] [.a 0, .a 1])) (.not (.callP 95 [(.var 0), (.ix (.var 2) (.lit (.int 1))), (.ix (.var 2) (.lit (.int 2)))] [.a 0, .a 1, .a 2])))) [(.ret (.lit (.tup [(.str ⟨#[102, 111, 114, 109]⟩)])))] []), (.asg (.tup [(.var 7), (.var 8), (.var 9), (.var 10)]) (.var 2)), (.iff (.not (.callP 90 [(.var 0), (.var 10), (.lit (.int 16))] [.a 0, .a 1, .a 2])) [(.ret (.lit (.tup [(.str ⟨#[102, 111, 114, 109]⟩)])))] []), (.iff (.cmp .ne (.callP 49 [(.var 7), (.var 5)] [.a 0, .a 1]) (.var 6)) [(.ret (.lit (.tup [(.str ⟨#[112, 114, 105, 99, 101]⟩)])))] []), (.asg (.var 11) (.callP 94 [(.var 0), (.tup [(.var 7), (.var 4)]), (.var 8), (.var 9)] [.a 0, .a 1, .a 2, .a 3])), (.ret (.ite (.cmp .isN (.var 11) (.lit .non)) (.callP 93 [(.var 0), (.var 4), (.call 96 [(.var 0), (.var 5), (.bin .sub (.var 6) (.lit (.int 1)))] [.a 0, .a 1, .a 2]), (.var 10)] [.a 0, .a 1, .a 2, .a 3]) (.var 11)))]⟩,
  ⟨8, [(.asg (.tup [(.var 4), (.var 5), (.var 6), (.var 7)]) (.var 2)), (.iff (.var 1) [(.ret (.callP 97 [(.var 0), (.var 2), (.var 3)] [.a 0, .a 1, .a 2]))] []), (.iff (.and (.callP 47 [(.var 3), (.lit (.str ⟨#[108, 101, 115, 115]⟩)), (.lit (.int 4))] [.a 0, .a 1, .a 2]) (.and (.callP 25 [(.var 0), (.ix (.var 3) (.lit (.int 1)))] [.a 0, .a 1]) (.callP 95 [(.var 0), (.ix (.var 3) (.lit (.int 2))), (.ix (.var 3) (.lit (.int 3)))] [.a 0, .a 1, .a 2]))) [(.iff (.cmp .ge (.callP 49 [(.ix (.var 3) (.lit (.int 1))), (.var 6)] [.a 0, .a 1]) (.var 7)) [(.ret (.lit (.tup [(.str ⟨#[112, 114, 105, 99, 101]⟩)])))] []), (.ret (.callP 94 [(.var 0), (.tup [(.ix (.var 3) (.lit (.int 1))), (.var 5)]), (.ix (.var 3) (.lit (.int 2))), (.ix (.var 3) (.lit (.int 3)))] [.a 0, .a 1, .a 2, .a 3]))] []), (.iff (.or (.not (.callP 47 [(.var 3), (.lit (.str ⟨#[109, 111, 114, 101]⟩)), (.lit (.int 2))] [.a 0, .a 1, .a 2])) (.not (.callP 90 [(.var 0), (.ix (.var 3) (.lit (.int 1))), (.lit (.int 16))] [.a 0, .a 1, .a 2]))) [(.ret (.lit (.tup [(.str ⟨#[102, 111, 114, 109]⟩)])))] []), (.ret (.callP 93 [(.var 0), (.var 5), (.call 96 [(.var 0), (.var 6), (.var 7)] [.a 0, .a 1, .a 2]), (.ix (.var 3) (.lit (.int 1)))] [.a 0, .a 1, .a 2, .a 3]))]⟩,
  ⟨4, [(.iff (.var 1) [(.iff (.not (.callP 90 [(.var 0), (.var 3), (.lit (.int 16))] [.a 0, .a 1, .a 2])) [(.ret (.lit (.tup [(.str ⟨#[102, 111, 114, 109]⟩)])))] []), (.ret (.callP 93 [(.var 0), (.ix (.var 2) (.lit (.int 1))), (.callP 31 [(.var 0)] [.a 0]), (.var 3)] [.a 0, .a 1, .a 2, .a 3]))] []), (.iff (.or (.not (.callP 37 [(.var 3), (.lit (.int 3))] [.a 0, .a 1])) (.or (.not (.callP 25 [(.var 0), (.ix (.var 3) (.lit (.int 0)))] [.a 0, .a 1])) (.not (.callP 95 [(.var 0), (.ix (.var 3) (.lit (.int 1))), (.ix (.var 3) (.lit (.int 2)))] [.a 0, .a 1, .a 2])))) [(.ret (.lit (.tup [(.str ⟨#[102, 111, 114, 109]⟩)])))] []), (.ret (.callP 94 [(.var 0), (.tup [(.ix (.var 3) (.lit (.int 0))), (.ix (.var 2) (.lit (.int 1)))]), (.ix (.var 3) (.lit (.int 1))), (.ix (.var 3) (.lit (.int 2)))] [.a 0, .a 1, .a 2, .a 3]))]⟩,
  ⟨7, [(.asg (.var 2) (.callP 91 [(.var 0), (.var 1)] [.a 0, .a 1])), (.iff (.or (.cmp .notN (.var 2) (.lit .non)) (.bi .any [(.lc [3] (.var 3) (.seq (.ix (.var 1) (.lit (.int 0)))) [] (.cmp .isN (.callP 50 [(.var 0), (.var 3)] [.a 0, .a 1]) (.lit .non)))])) [(.ret (.var 2))] []), (.forr (.var 4) (.seq (.callP 31 [(.var 0)] [.a 0])) [(.asg (.var 5) (.lst [])), (.forr (.var 6) (.seq (.callP 30 [(.var 0)] [.a 0])) [(.iff (.not (.bi .any [(.lc [3] (.var 3) (.seq (.ix (.var 1) (.lit (.int 0)))) [] (.callP 51 [(.var 0), (.var 3), (.var 4), (.var 6)] [.a 0, .a 1, .a 2, .a 3]))])) [(.expr (.mt .append (.var 5) [(.var 6)]))] [])]), (.iff (.not (.callP 92 [(.var 0), (.tup [(.var 4), (.bi .tuple [(.var 5)])]), (.ix (.var 1) (.lit (.int 1)))] [.a 0, .a 1, .a 2])) [(.ret (.tup [(.lit (.str ⟨#[119, 97, 105, 116]⟩)), (.var 4)]))] [])]), (.ret (.lit .non))]⟩,
  ⟨4, [(.iff (.var 1) [(.ret (.ite (.callP 90 [(.var 0), (.var 3), (.lit (.int 600))] [.a 0, .a 1, .a 2]) (.callP 100 [(.var 0), (.var 3)] [.a 0, .a 1]) (.lit (.tup [(.str ⟨#[102, 111, 114, 109]⟩)]))))] []), (.iff (.or (.not (.callP 37 [(.var 3), (.lit (.int 3))] [.a 0, .a 1])) (.or (.not (.callP 28 [(.var 0), (.ix (.var 3) (.lit (.int 0)))] [.a 0, .a 1])) (.not (.callP 95 [(.var 0), (.ix (.var 3) (.lit (.int 1))), (.ix (.var 3) (.lit (.int 2)))] [.a 0, .a 1, .a 2])))) [(.ret (.lit (.tup [(.str ⟨#[102, 111, 114, 109]⟩)])))] []), (.ret (.callP 94 [(.var 0), (.ix (.var 3) (.lit (.int 0))), (.ix (.var 3) (.lit (.int 1))), (.ix (.var 3) (.lit (.int 2)))] [.a 0, .a 1, .a 2, .a 3]))]⟩,
  ⟨3, [(.asg (.var 2) (.ix (.call 16 [(.var 0), (.var 1)] [.a 0, .a 1]) (.lit (.int 1)))), (.ret (.ite (.cmp .isN (.var 2) (.lit .non)) (.lit .non) (.bin .add (.tup [(.lit (.str ⟨#[114, 111, 119]⟩))]) (.var 2))))]⟩,
  ⟨2, [(.ret (.ite (.cmp .isN (.var 1) (.lit .non)) (.lit .non) (.tup [(.var 0), (.var 1)])))]⟩,
  ⟨12, [(.asg (.tup [(.var 4), (.var 5), (.var 6), (.var 7), (.var 8)]) (.var 3)), (.forr (.tup [(.var 9), (.tup [(.var 10), (.var 11)])]) (.enum (.never 21)) [(.iff (.or (.cmp .ne (.sl (.ix (.var 0) (.var 10)) none (some (.lit (.int 3)))) (.tup [(.var 5), (.var 6), (.var 7)])) (.cmp .ne (.ix (.var 1) (.var 10)) (.var 11))) [(.ret (.tup [(.lit (.str ⟨#[114, 111, 119, 115]⟩)), (.var 9)]))] [])]), (.ret (.lit .non))]⟩,
  ⟨13, [(.asg (.tup [(.var 3), (.var 4), (.var 5), (.var 6), (.var 7)]) (.var 1)), (.iff (.or (.not (.callP 37 [(.var 2), (.lit (.int 3))] [.a 0, .a 1])) (.or (.not (.callP 12 [(.var 0), (.ix (.var 2) (.lit (.int 0)))] [.a 0, .a 1])) (.not (.callP 37 [(.ix (.var 2) (.lit (.int 1))), (.bi .len [(.var 7)])] [.a 0, .a 1])))) [(.ret (.lit (.tup [(.str ⟨#[102, 111, 114, 109]⟩)])))] []), (.asg (.tup [(.var 8), (.var 9), (.var 10)]) (.var 2)), (.iff (.or (.not (.bi .all [(.lc [11] (.var 11) (.seq (.var 9)) [] (.callP 0 [(.var 11), (.bi .len [(.var 8)])] [.a 0, .a 1]))])) (.not (.callP 41 [(.var 0), (.var 4), (.var 10)] [.a 0, .a 1, .a 2]))) [(.ret (.lit (.tup [(.str ⟨#[102, 111, 114, 109]⟩)])))] []), (.asg (.var 12) (.callP 102 [(.var 0), (.var 8)] [.a 0, .a 1])), (.iff (.cmp .isN (.var 12) (.lit .non)) [(.asg (.var 12) (.callP 104 [(.var 8), (.ix (.call 16 [(.var 0), (.var 8)] [.a 0, .a 1]) (.lit (.int 0))), (.var 9), (.var 1)] [.a 0, .a 1, .a 2, .a 3]))] []), (.iff (.cmp .isN (.var 12) (.lit .non)) [(.asg (.var 12) (.callP 103 [(.lit (.str ⟨#[116, 97, 98, 108, 101]⟩)), (.callP 58 [(.var 0), (.var 4), (.var 10), (.lit (.bl false))] [.a 0, .a 1, .a 2, .a 3])] [.a 0, .a 1]))] []), (.iff (.and (.cmp .isN (.var 12) (.lit .non)) (.cmp .ne (.mt .get1 (.call 54 [(.var 10)] [.a 0]) [(.tup [(.var 5), (.lit (.int 0)), (.var 6)])]) (.var 7))) [(.ret (.lit (.tup [(.str ⟨#[101, 110, 116, 114, 121]⟩)])))] []), (.ret (.var 12))]⟩,
  ⟨9, [(.asg (.tup [(.var 3), (.var 4), (.var 5), (.var 6), (.var 7)]) (.var 1)), (.iff (.and (.callP 47 [(.var 2), (.lit (.str ⟨#[109, 111, 114, 101]⟩)), (.lit (.int 2))] [.a 0, .a 1, .a 2]) (.callP 12 [(.var 0), (.ix (.var 2) (.lit (.int 1)))] [.a 0, .a 1])) [(.asg (.var 8) (.callP 102 [(.var 0), (.ix (.var 2) (.lit (.int 1)))] [.a 0, .a 1])), (.iff (.cmp .notN (.var 8) (.lit .non)) [(.ret (.var 8))] []), (.iff (.or (.cmp .eq (.ix (.var 2) (.lit (.int 1))) (.tup [])) (.cmp .ne (.sl (.ix (.ix (.var 2) (.lit (.int 1))) (.neg (.lit (.int 1)))) none (some (.lit (.int 3)))) (.tup [(.var 4), (.var 5), (.var 6)]))) [(.ret (.lit (.tup [(.str ⟨#[115, 97, 109, 101]⟩)])))] []), (.ret (.ite (.cmp .mem (.ix (.ix (.call 16 [(.var 0), (.ix (.var 2) (.lit (.int 1)))] [.a 0, .a 1]) (.lit (.int 0))) (.neg (.lit (.int 1)))) (.var 7)) (.lit (.tup [(.str ⟨#[115, 97, 109, 101]⟩)])) (.lit .non)))] []), (.iff (.or (.not (.callP 47 [(.var 2), (.lit (.str ⟨#[108, 101, 115, 115]⟩)), (.lit (.int 3))] [.a 0, .a 1, .a 2])) (.not (.callP 107 [(.ix (.var 2) (.lit (.int 1))), (.var 7)] [.a 0, .a 1]))) [(.ret (.lit (.tup [(.str ⟨#[102, 111, 114, 109]⟩)])))] []), (.iff (.not (.callP 41 [(.var 0), (.var 4), (.ix (.var 2) (.lit (.int 2)))] [.a 0, .a 1, .a 2])) [(.ret (.lit (.tup [(.str ⟨#[102, 111, 114, 109]⟩)])))] []), (.asg (.var 8) (.callP 103 [(.lit (.str ⟨#[116, 97, 98, 108, 101]⟩)), (.callP 58 [(.var 0), (.var 4), (.ix (.var 2) (.lit (.int 2))), (.lit (.bl false))] [.a 0, .a 1, .a 2, .a 3])] [.a 0, .a 1])), (.ret (.ite (.cmp .notN (.var 8) (.lit .non)) (.var 8) (.callP 108 [(.ix (.var 2) (.lit (.int 2))), (.tup [(.var 5), (.lit (.int 0)), (.var 6)]), (.ix (.var 2) (.lit (.int 1)))] [.a 0, .a 1, .a 2])))]⟩,
  ⟨3, [(.ret (.cmp .mem (.never 20) (.lc [2] (.var 2) (.seq (.var 1)) [] (.never 20))))]⟩,
  ⟨4, [(.asg (.var 3) (.mt .get1 (.call 54 [(.var 0)] [.a 0]) [(.var 1)])), (.ret (.ite (.or (.cmp .isN (.var 3) (.lit .non)) (.cmp .mem (.var 2) (.var 3))) (.lit (.tup [(.str ⟨#[101, 110, 116, 114, 121]⟩)])) (.lit .non)))]⟩,
  ⟨11, [(.asg (.tup [(.var 5), (.var 6), (.var 7)]) (.var 3)), (.asg (.tup [(.var 8), (.var 9), (.var 10)]) (.callP 15 [(.var 0), (.var 1), (.var 2), (.tup [(.lit (.str ⟨#[111, 108, 100]⟩)), (.lit (.str ⟨#[110, 101, 119]⟩)), (.var 5), (.var 6), (.var 7)]), (.var 4)] [.a 0, .a 1, .a 2, .a 3, .a 4])), (.iff (.or (.cmp .lt (.var 10) (.bi .len [(.var 4)])) (.cmp .ne (.ix (.ix (.callP 5 [(.var 0), (.var 5)] [.a 0, .a 1, .d (.str ⟨#[111, 108, 100]⟩)]) (.var 8)) (.lit (.int 0))) (.lit (.str ⟨#[114, 101, 116, 117, 114, 110]⟩)))) [(.ret (.var 10))] []), (.ret (.lit .non))]⟩,
  ⟨8, [(.asg (.tup [(.var 5), (.var 6), (.var 7)]) (.var 3)), (.ret (.ix (.callP 15 [(.var 0), (.var 1), (.var 2), (.tup [(.lit (.str ⟨#[111, 108, 100]⟩)), (.lit (.str ⟨#[110, 101, 119]⟩)), (.var 5), (.var 6), (.var 7)]), (.var 4)] [.a 0, .a 1, .a 2, .a 3, .a 4]) (.lit (.int 1))))]⟩,
  ⟨10, [(.asg (.var 5) (.ix (.call 16 [(.var 0), (.var 1)] [.a 0, .a 1]) (.lit (.int 0)))), (.forr (.tup [(.var 6), (.var 7)]) (.enum (.var 3)) [(.asg (.var 8) (.callP 109 [(.var 0), (.var 1), (.var 5), (.var 2), (.var 7)] [.a 0, .a 1, .a 2, .a 3, .a 4])), (.iff (.cmp .notN (.var 8) (.lit .non)) [(.ret (.tup [(.lit (.str ⟨#[119, 97, 121]⟩)), (.var 6), (.var 8)]))] [])]), (.forr (.tup [(.var 6), (.tup [(.var 7), (.var 9)])]) (.enum (.never 21)) [(.iff (.cmp .ne (.callP 110 [(.var 0), (.var 1), (.var 5), (.var 2), (.var 7)] [.a 0, .a 1, .a 2, .a 3, .a 4]) (.var 9)) [(.ret (.tup [(.lit (.str ⟨#[119, 97, 121, 115]⟩)), (.var 6)]))] [])]), (.ret (.lit .non))]⟩,
  ⟨4, [(.asg (.var 3) (.callP 103 [(.lit (.str ⟨#[110, 101, 119, 115]⟩)), (.callP 58 [(.var 0), (.lit (.str ⟨#[110, 101, 119]⟩)), (.var 1), (.lit (.bl true))] [.a 0, .a 1, .a 2, .a 3])] [.a 0, .a 1])), (.ret (.ite (.cmp .notN (.var 3) (.lit .non)) (.var 3) (.callP 103 [(.lit (.str ⟨#[116, 97, 98, 108, 101]⟩)), (.callP 59 [(.var 0), (.var 2), (.var 1)] [.a 0, .a 1, .a 2])] [.a 0, .a 1])))]⟩,
  ⟨3, [(.ret (.and (.callP 41 [(.var 0), (.lit (.str ⟨#[110, 101, 119]⟩)), (.var 1)] [.a 0, .a 1, .a 2]) (.callP 42 [(.var 0), (.var 2)] [.a 0, .a 1])))]⟩,
  ⟨11, [(.par [3, 4] [(.sl (.var 1) (some (.lit (.int 1))) (some (.lit (.int 4)))), (.ix (.var 1) (.lit (.int 4)))]), (.iff (.or (.not (.callP 37 [(.var 2), (.lit (.int 4))] [.a 0, .a 1])) (.or (.not (.callP 12 [(.var 0), (.ix (.var 2) (.lit (.int 0)))] [.a 0, .a 1])) (.not (.callP 37 [(.ix (.var 2) (.lit (.int 1))), (.bi .len [(.var 4)])] [.a 0, .a 1])))) [(.ret (.lit (.tup [(.str ⟨#[102, 111, 114, 109]⟩)])))] []), (.asg (.tup [(.var 5), (.var 6), (.var 7), (.var 8)]) (.var 2)), (.iff (.or (.not (.bi .all [(.lc [9] (.var 9) (.seq (.var 6)) [] (.callP 9 [(.var 9)] [.a 0]))])) (.not (.callP 113 [(.var 0), (.var 7), (.var 8)] [.a 0, .a 1, .a 2]))) [(.ret (.lit (.tup [(.str ⟨#[102, 111, 114, 109]⟩)])))] []), (.asg (.var 10) (.callP 102 [(.var 0), (.var 5)] [.a 0, .a 1])), (.iff (.cmp .isN (.var 10) (.lit .non)) [(.asg (.var 10) (.callP 111 [(.var 0), (.var 5), (.var 3), (.var 6), (.var 4)] [.a 0, .a 1, .a 2, .a 3, .a 4]))] []), (.iff (.cmp .isN (.var 10) (.lit .non)) [(.asg (.var 10) (.callP 112 [(.var 0), (.var 7), (.var 8)] [.a 0, .a 1, .a 2]))] []), (.iff (.and (.cmp .isN (.var 10) (.lit .non)) (.cmp .ne (.mt .get1 (.call 54 [(.var 8)] [.a 0]) [(.var 3)]) (.var 4))) [(.ret (.lit (.tup [(.str ⟨#[101, 110, 116, 114, 121]⟩)])))] []), (.ret (.var 10))]⟩,
  ⟨7, [(.asg (.var 4) (.callP 102 [(.var 0), (.var 2)] [.a 0, .a 1])), (.iff (.cmp .notN (.var 4) (.lit .non)) [(.ret (.var 4))] []), (.asg (.var 5) (.ix (.call 16 [(.var 0), (.var 2)] [.a 0, .a 1]) (.lit (.int 0)))), (.asg (.var 6) (.callP 109 [(.var 0), (.var 2), (.var 5), (.sl (.var 1) (some (.lit (.int 1))) (some (.lit (.int 4)))), (.var 3)] [.a 0, .a 1, .a 2, .a 3, .a 4])), (.iff (.cmp .notN (.var 6) (.lit .non)) [(.ret (.tup [(.lit (.str ⟨#[119, 97, 121]⟩)), (.lit (.int 0)), (.var 6)]))] []), (.ret (.ite (.cmp .mem (.callP 110 [(.var 0), (.var 2), (.var 5), (.sl (.var 1) (some (.lit (.int 1))) (some (.lit (.int 4)))), (.var 3)] [.a 0, .a 1, .a 2, .a 3, .a 4]) (.ix (.var 1) (.lit (.int 4)))) (.lit (.tup [(.str ⟨#[115, 97, 109, 101]⟩)])) (.lit .non)))]⟩,
  ⟨13, [(.asg (.tup [(.var 4), (.var 5), (.var 6), (.var 7), (.var 8)]) (.var 1)), (.asg (.var 9) (.callP 102 [(.var 0), (.var 2)] [.a 0, .a 1])), (.iff (.cmp .notN (.var 9) (.lit .non)) [(.ret (.var 9))] []), (.asg (.var 10) (.make 0 [(.var 0), (.var 2), (.var 7), (.tup [(.tup [(.var 5), (.lit (.str ⟨#[111, 108, 100]⟩)), (.var 6)])]), (.lit (.bl true))] [.a 0, .a 1, .a 2, .a 3, .a 4, .a 5])), (.forr (.tup [(.var 11), (.var 12)]) (.enum (.var 3)) [(.iff (.not (.omth 3 (.var 10) [(.var 12)] [(20, [.a 0, .a 1])])) [(.ret (.tup [(.lit (.str ⟨#[109, 111, 118, 101]⟩)), (.var 11)]))] [])]), (.ret (.ite (.and (.cmp .notN (.omth 1 (.var 10) [] [(18, [.a 0])]) (.lit .non)) (.cmp .eq (.ix (.omth 1 (.var 10) [] [(18, [.a 0])]) (.lit (.int 0))) (.lit (.str ⟨#[98, 97, 100]⟩)))) (.lit .non) (.tup [(.lit (.str ⟨#[98, 97, 100]⟩))])))]⟩,
  ⟨4, [(.iff (.and (.callP 47 [(.var 2), (.lit (.str ⟨#[109, 111, 114, 101]⟩)), (.lit (.int 3))] [.a 0, .a 1, .a 2]) (.and (.callP 12 [(.var 0), (.ix (.var 2) (.lit (.int 1)))] [.a 0, .a 1]) (.callP 9 [(.ix (.var 2) (.lit (.int 2)))] [.a 0]))) [(.ret (.callP 115 [(.var 0), (.var 1), (.ix (.var 2) (.lit (.int 1))), (.ix (.var 2) (.lit (.int 2)))] [.a 0, .a 1, .a 2, .a 3]))] []), (.iff (.and (.callP 47 [(.var 2), (.lit (.str ⟨#[104, 97, 114, 109]⟩)), (.lit (.int 3))] [.a 0, .a 1, .a 2]) (.and (.callP 12 [(.var 0), (.ix (.var 2) (.lit (.int 1)))] [.a 0, .a 1]) (.callP 10 [(.ix (.var 2) (.lit (.int 2)))] [.a 0]))) [(.ret (.callP 116 [(.var 0), (.var 1), (.ix (.var 2) (.lit (.int 1))), (.ix (.var 2) (.lit (.int 2)))] [.a 0, .a 1, .a 2, .a 3]))] []), (.iff (.or (.not (.callP 47 [(.var 2), (.lit (.str ⟨#[108, 101, 115, 115]⟩)), (.lit (.int 4))] [.a 0, .a 1, .a 2])) (.not (.callP 107 [(.ix (.var 2) (.lit (.int 1))), (.ix (.var 1) (.lit (.int 4)))] [.a 0, .a 1]))) [(.ret (.lit (.tup [(.str ⟨#[102, 111, 114, 109]⟩)])))] []), (.iff (.not (.callP 113 [(.var 0), (.ix (.var 2) (.lit (.int 2))), (.ix (.var 2) (.lit (.int 3)))] [.a 0, .a 1, .a 2])) [(.ret (.lit (.tup [(.str ⟨#[102, 111, 114, 109]⟩)])))] []), (.asg (.var 3) (.callP 112 [(.var 0), (.ix (.var 2) (.lit (.int 2))), (.ix (.var 2) (.lit (.int 3)))] [.a 0, .a 1, .a 2])), (.ret (.ite (.cmp .notN (.var 3) (.lit .non)) (.var 3) (.callP 108 [(.ix (.var 2) (.lit (.int 3))), (.sl (.var 1) (some (.lit (.int 1))) (some (.lit (.int 4)))), (.ix (.var 2) (.lit (.int 1)))] [.a 0, .a 1, .a 2])))]⟩,
  ⟨5, [(.iff (.cmp .eq (.ix (.var 2) (.lit (.int 0))) (.lit (.str ⟨#[101, 110, 100, 115]⟩))) [(.pick (.var 1) 4 (.call 105 [(.var 0), (.var 2), (.var 3)] [.a 0, .a 1, .a 2]) (.call 106 [(.var 0), (.var 2), (.var 3)] [.a 0, .a 1, .a 2]))] []), (.iff (.cmp .eq (.ix (.var 2) (.lit (.int 0))) (.lit (.str ⟨#[114, 101, 109, 97, 105, 110, 100, 101, 114, 115]⟩))) [(.pick (.var 1) 4 (.call 114 [(.var 0), (.var 2), (.var 3)] [.a 0, .a 1, .a 2]) (.call 117 [(.var 0), (.var 2), (.var 3)] [.a 0, .a 1, .a 2]))] []), (.iff (.cmp .eq (.ix (.var 2) (.lit (.int 0))) (.lit (.str ⟨#[115, 97, 102, 101]⟩))) [(.ret (.callP 87 [(.var 0), (.var 1), (.var 2), (.var 3)] [.a 0, .a 1, .a 2, .a 3]))] []), (.iff (.cmp .eq (.ix (.var 2) (.lit (.int 0))) (.lit (.str ⟨#[114, 101, 99, 117, 114, 115]⟩))) [(.ret (.callP 88 [(.var 0), (.var 1), (.var 2), (.var 3)] [.a 0, .a 1, .a 2, .a 3]))] []), (.iff (.cmp .eq (.ix (.var 2) (.lit (.int 0))) (.lit (.str ⟨#[108, 101, 97, 115, 116]⟩))) [(.ret (.callP 98 [(.var 0), (.var 1), (.var 2), (.var 3)] [.a 0, .a 1, .a 2, .a 3]))] []), (.iff (.cmp .eq (.ix (.var 2) (.lit (.int 0))) (.lit (.str ⟨#[108, 111, 115, 116]⟩))) [(.ret (.callP 99 [(.var 0), (.var 1), (.var 2), (.var 3)] [.a 0, .a 1, .a 2, .a 3]))] []), (.ret (.callP 101 [(.var 0), (.var 1), (.var 2), (.var 3)] [.a 0, .a 1, .a 2, .a 3]))]⟩,
  ⟨5, [(.iff (.not (.callP 37 [(.var 1), (.lit (.int 3))] [.a 0, .a 1])) [(.ret (.lit (.tup [(.str ⟨#[102, 111, 114, 109]⟩)])))] []), (.asg (.tup [(.var 2), (.var 3), (.var 4)]) (.var 1)), (.iff (.not (.callP 53 [(.var 0), (.var 3)] [.a 0, .a 1])) [(.ret (.tup [(.lit (.str ⟨#[99, 108, 97, 105, 109]⟩))]))] []), (.iff (.or (.not (.isi (.var 2) [.str])) (.cmp .nmem (.var 2) (.tup [(.lit (.str ⟨#[115, 104, 111, 119, 110]⟩)), (.lit (.str ⟨#[98, 114, 111, 107, 101, 110]⟩))]))) [(.ret (.lit (.tup [(.str ⟨#[102, 111, 114, 109]⟩)])))] []), (.ret (.callP 118 [(.var 0), (.cmp .eq (.var 2) (.lit (.str ⟨#[115, 104, 111, 119, 110]⟩))), (.var 3), (.var 4)] [.a 0, .a 1, .a 2, .a 3]))]⟩,
  ⟨4, [(.asg (.var 0) (.tup [(.tup [(.lit (.str ⟨#[99, 97, 108, 108]⟩)), (.lit (.int 1)), (.lit (.int 0))])])), (.asg (.var 1) (.tup [(.tup [(.lit (.str ⟨#[99, 97, 108, 108]⟩)), (.lit (.int 2)), (.lit (.int 1))]), (.tup [(.lit (.str ⟨#[108, 111, 111, 107]⟩)), (.lit (.int 0)), (.tup [(.lit (.int 2)), (.lit (.int 4))])]), (.tup [(.lit (.str ⟨#[99, 97, 108, 108]⟩)), (.lit (.int 2)), (.lit (.int 3))]), (.tup [(.lit (.str ⟨#[108, 111, 111, 107]⟩)), (.lit (.int 0)), (.tup [(.lit (.int 6)), (.lit (.int 5))])]), (.tup [(.lit (.str ⟨#[99, 97, 108, 108]⟩)), (.lit (.int 2)), (.lit (.int 7))]), (.tup [(.lit (.str ⟨#[98, 97, 100]⟩))])])), (.asg (.var 1) (.bin .add (.var 1) (.tup [(.tup [(.lit (.str ⟨#[114, 101, 116, 117, 114, 110]⟩))]), (.tup [(.lit (.str ⟨#[108, 111, 111, 107]⟩)), (.lit (.int 0)), (.tup [(.lit (.int 5)), (.lit (.int 6))])])]))), (.asg (.tup [(.var 2), (.var 3)]) (.tup [(.tup [(.tup [(.lit (.str ⟨#[115, 101, 116]⟩)), (.lit (.int 0)), (.lit (.int 0)), (.lit (.int 1))]), (.tup [(.lit (.str ⟨#[114, 101, 116, 117, 114, 110]⟩))])]), (.tup [(.tup [(.lit (.str ⟨#[115, 101, 116]⟩)), (.lit (.int 0)), (.lit (.int 1)), (.lit (.int 1))]), (.tup [(.lit (.str ⟨#[114, 101, 116, 117, 114, 110]⟩))])])])), (.ret (.tup [(.tup [(.lit (.int 2))]), (.tup [(.lit (.int 0))]), (.tup [(.tup [(.var 0), (.var 0)]), (.tup [(.var 1), (.var 1)]), (.tup [(.var 2), (.var 3)])]), (.tup [])]))]⟩,
  ⟨4, [(.asg (.var 1) (.tup [(.tup [(.lit (.str ⟨#[108, 111, 111, 107]⟩)), (.lit (.int 0)), (.bin .add (.tup [(.lit (.int 4))]) (.bin .mul (.tup [(.lit (.int 1))]) (.bin .sub (.var 0) (.lit (.int 1)))))]), (.tup [(.lit (.str ⟨#[97, 100, 100]⟩)), (.lit (.int 0)), (.bin .sub (.var 0) (.lit (.int 1))), (.lit (.int 2))]), (.tup [(.lit (.str ⟨#[99, 97, 108, 108]⟩)), (.lit (.int 1)), (.lit (.int 3))])])), (.asg (.var 1) (.bin .add (.var 1) (.tup [(.tup [(.lit (.str ⟨#[97, 100, 100]⟩)), (.lit (.int 0)), (.lit (.int 1)), (.lit (.int 4))]), (.tup [(.lit (.str ⟨#[114, 101, 116, 117, 114, 110]⟩))])]))), (.asg (.var 2) (.bin .add (.tup [(.tup [(.lit (.str ⟨#[108, 111, 111, 107]⟩)), (.lit (.int 0)), (.bin .add (.tup [(.lit (.int 4)), (.lit (.int 4))]) (.bin .mul (.tup [(.lit (.int 1))]) (.bin .sub (.var 0) (.lit (.int 2)))))])]) (.sl (.var 1) (some (.lit (.int 1))) none))), (.asg (.var 3) (.tup [(.tup [(.lit (.str ⟨#[97, 110, 121]⟩)), (.lit (.int 0)), (.lit (.int 1))]), (.tup [(.lit (.str ⟨#[99, 97, 108, 108]⟩)), (.lit (.int 1)), (.lit (.int 0))])])), (.ret (.tup [(.tup [(.var 0)]), (.tup [(.lit (.int 0))]), (.tup [(.tup [(.var 3), (.var 3)]), (.tup [(.var 1), (.var 2)])]), (.tup [])]))]⟩,
  ⟨7, [(.asg (.var 6) (.tup [(.lit (.str ⟨#[101, 110, 100, 115]⟩)), (.var 1), (.var 2), (.var 3), (.var 4)])), (.ret (.callP 119 [(.var 0), (.tup [(.lit (.str ⟨#[98, 114, 111, 107, 101, 110]⟩)), (.var 6), (.tup [(.lit (.str ⟨#[109, 111, 114, 101]⟩)), (.bi .tuple [(.var 5)])])])] [.a 0, .a 1]))]⟩,
  ⟨11, [(.asg (.tup [(.var 0), (.var 1), (.var 2)]) (.tup [(.callP 120 [] []), (.tup [(.lit (.int 0))]), (.tup [(.lit (.int 1))])])), (.par [3, 4] [(.tup [(.lit (.str ⟨#[111, 108, 100]⟩)), (.lit (.int 2)), (.var 1), (.tup [(.lit .non)])]), (.tup [(.lit (.str ⟨#[110, 101, 119]⟩)), (.lit (.int 2)), (.var 1), (.tup [(.lit .non)])])]), (.asg (.var 5) (.tup [(.lit (.str ⟨#[111, 108, 100]⟩)), (.lit (.int 1)), (.var 1), (.tup [(.tup [(.lit (.str ⟨#[115, 107, 105, 112]⟩)), (.lit (.int 0))]), (.lit .non), (.tup [(.lit (.str ⟨#[115, 107, 105, 112]⟩)), (.lit (.int 0))]), (.lit .non)])])), (.asg (.var 6) (.lst [(.tup [(.lst [(.var 3), (.var 5)]), (.lit .non)]), (.tup [(.lst [(.var 3)]), (.tup [(.lit (.str ⟨#[115, 97, 109, 101]⟩))])]), (.tup [(.lst []), (.tup [(.lit (.str ⟨#[115, 97, 109, 101]⟩))])]), (.tup [(.lst [(.var 3), (.bin .add (.sl (.var 5) none (some (.lit (.int 3)))) (.tup [(.tup [])]))]), (.tup [(.lit (.str ⟨#[114, 111, 119]⟩)), (.lit (.int 1)), (.lit (.int 0))])])])), (.asg (.var 6) (.bin .add (.var 6) (.lst [(.tup [(.lst [(.var 5)]), (.tup [(.lit (.str ⟨#[114, 111, 119]⟩)), (.lit (.int 0)), (.lit (.int 0))])]), (.tup [(.lst [(.var 5), (.var 3)]), (.tup [(.lit (.str ⟨#[114, 111, 119]⟩)), (.lit (.int 0)), (.lit (.int 0))])]), (.tup [(.lst [(.var 4), (.var 5)]), (.tup [(.lit (.str ⟨#[114, 111, 119]⟩)), (.lit (.int 1)), (.lit (.int 0))])])]))), (.asg (.var 6) (.bin .add (.var 6) (.lst [(.tup [(.lst [(.tup [(.lit (.str ⟨#[111, 108, 100]⟩)), (.lit (.int 2)), (.var 2), (.tup [(.lit .non)])]), (.var 5)]), (.tup [(.lit (.str ⟨#[114, 111, 119]⟩)), (.lit (.int 1)), (.lit (.int 0))])]), (.tup [(.lst [(.var 3), (.var 5), (.var 3)]), (.tup [(.lit (.str ⟨#[115, 97, 109, 101]⟩))])])]))), (.expr (.mt .append (.var 6) [(.tup [(.lst [(.var 3), (.bin .add (.sl (.var 5) none (some (.lit (.int 3)))) (.tup [(.sl (.ix (.var 5) (.lit (.int 3))) none (some (.lit (.int 3))))]))]), (.tup [(.lit (.str ⟨#[114, 111, 119]⟩)), (.lit (.int 1)), (.lit (.int 3))])])])), (.expr (.mt .append (.var 6) [(.tup [(.lst [(.var 3), (.bin .add (.sl (.var 5) none (some (.lit (.int 3)))) (.tup [(.bin .add (.ix (.var 5) (.lit (.int 3))) (.tup [(.lit .non)]))]))]), (.tup [(.lit (.str ⟨#[114, 111, 119]⟩)), (.lit (.int 1)), (.lit (.int 4))])])])), (.expr (.mt .append (.var 6) [(.tup [(.lst [(.var 3), (.bin .add (.sl (.var 5) none (some (.lit (.int 3)))) (.tup [(.tup [(.tup [(.lit (.str ⟨#[115, 107, 105, 112]⟩)), (.lit (.int 1))])])]))]), (.tup [(.lit (.str ⟨#[114, 111, 119]⟩)), (.lit (.int 1)), (.lit (.int 0))])])])), (.expr (.mt .append (.var 6) [(.tup [(.lst [(.tup [(.lit (.str ⟨#[111, 108, 100]⟩)), (.lit (.int 2)), (.var 1), (.tup [(.lit (.int 0))])]), (.var 5)]), (.tup [(.lit (.str ⟨#[114, 111, 119]⟩)), (.lit (.int 0)), (.lit (.int 0))])])])), (.asg (.var 6) (.bin .add (.var 6) (.lst [(.tup [(.lst [(.var 3), (.var 4), (.var 5)]), (.lit .non)]), (.tup [(.lst [(.var 3), (.tup [(.lit (.str ⟨#[111, 108, 100]⟩)), (.lit (.int 1)), (.var 2), (.ix (.var 5) (.lit (.int 3)))])]), (.tup [(.lit (.str ⟨#[114, 111, 119]⟩)), (.lit (.int 1)), (.lit (.int 0))])])]))), (.asg (.var 6) (.bin .add (.var 6) (.lst [(.tup [(.lst [(.var 3), (.tup [(.lit (.str ⟨#[111, 108, 100]⟩)), (.lit (.int 2)), (.var 1), (.tup [(.lit .non), (.lit .non)])]), (.bin .add (.sl (.var 5) none (some (.lit (.int 3)))) (.tup [(.tup [])]))]), (.tup [(.lit (.str ⟨#[114, 111, 119]⟩)), (.lit (.int 1)), (.lit (.int 1))])])]))), (.asg (.var 6) (.bin .add (.var 6) (.lst [(.tup [(.lst [(.var 3), (.tup [(.lit (.str ⟨#[111, 108, 100]⟩)), (.lit (.int 2)), (.var 2), (.tup [(.lit .non)])]), (.tup [(.lit (.str ⟨#[111, 108, 100]⟩)), (.lit (.int 1)), (.var 2), (.bin .add (.tup [(.tup [(.lit (.str ⟨#[115, 107, 105, 112]⟩)), (.lit (.int 1))])]) (.sl (.ix (.var 5) (.lit (.int 3))) (some (.lit (.int 1))) none))])]), (.tup [(.lit (.str ⟨#[115, 97, 109, 101]⟩))])])]))), (.asg (.var 7) (.lc [8, 9] (.tup [(.var 8), (.var 9)]) (.seq (.var 6)) [] (.callP 122 [(.var 0), (.lit (.str ⟨#[111, 108, 100]⟩)), (.lit (.int 1)), (.var 1), (.tup [(.var 2)]), (.var 8)] [.a 0, .a 1, .a 2, .a 3, .a 4, .a 5]))), (.iff (.cmp .ne (.var 7) (.lc [8, 9] (.tup [(.var 8), (.var 9)]) (.seq (.var 6)) [] (.var 9))) [(.ret (.lit (.bl false)))] []), (.asg (.var 10) (.tup [(.lit (.str ⟨#[110, 101, 119]⟩)), (.lit (.int 1)), (.var 1), (.tup [(.tup [(.lit (.str ⟨#[115, 107, 105, 112]⟩)), (.lit (.int 0))]), (.lit .non), (.tup [(.lit (.str ⟨#[115, 107, 105, 112]⟩)), (.lit (.int 1))]), (.lit .non)])])), (.asg (.var 6) (.lst [(.tup [(.lst [(.var 4), (.tup [(.lit (.str ⟨#[110, 101, 119]⟩)), (.lit (.int 2)), (.var 2), (.tup [(.lit .non)])]), (.var 10)]), (.lit .non)]), (.tup [(.lst [(.var 4), (.var 10)]), (.tup [(.lit (.str ⟨#[114, 111, 119]⟩)), (.lit (.int 1)), (.lit (.int 2))])])])), (.expr (.mt .append (.var 6) [(.tup [(.lst [(.var 3), (.var 4), (.var 10)]), (.tup [(.lit (.str ⟨#[114, 111, 119]⟩)), (.lit (.int 2)), (.lit (.int 0))])])])), (.asg (.var 7) (.lc [8, 9] (.tup [(.var 8), (.var 9)]) (.seq (.var 6)) [] (.callP 122 [(.var 0), (.lit (.str ⟨#[110, 101, 119]⟩)), (.lit (.int 1)), (.var 1), (.tup [(.var 1)]), (.var 8)] [.a 0, .a 1, .a 2, .a 3, .a 4, .a 5]))), (.ret (.cmp .eq (.var 7) (.lc [8, 9] (.tup [(.var 8), (.var 9)]) (.seq (.var 6)) [] (.var 9))))]⟩,
  ⟨10, [(.asg (.tup [(.var 1), (.var 2)]) (.tup [(.callP 121 [(.lit (.int 4))] [.a 0]), (.lst [(.tup [(.lit (.str ⟨#[111, 108, 100]⟩)), (.lit (.int 1)), (.tup [(.lit (.int 0))]), (.tup [(.lit .non)])])])])), (.forr (.var 3) (.range2 (.lit (.int 1)) (.bin .add (.var 0) (.lit (.int 1)))) [(.expr (.mt .append (.var 2) [(.tup [(.lit (.str ⟨#[111, 108, 100]⟩)), (.lit (.int 1)), (.tup [(.var 3)]), (.tup [(.lit .non), (.lit .non), (.tup [(.lit (.str ⟨#[115, 107, 105, 112]⟩)), (.bin .sub (.var 3) (.lit (.int 1)))]), (.lit .non)])])]))]), (.asg (.var 4) (.bi .tuple [(.lc [5] (.var 5) (.range1 (.lit (.int 4))) [(.cmp .ne (.var 5) (.var 0))] (.tup [(.var 5)]))])), (.iff (.cmp .notN (.callP 122 [(.var 1), (.lit (.str ⟨#[111, 108, 100]⟩)), (.lit (.int 1)), (.tup [(.var 0)]), (.var 4), (.var 2)] [.a 0, .a 1, .a 2, .a 3, .a 4, .a 5]) (.lit .non)) [(.ret (.lit (.bl false)))] []), (.iff (.cmp .ne (.callP 122 [(.var 1), (.lit (.str ⟨#[111, 108, 100]⟩)), (.lit (.int 1)), (.tup [(.var 0)]), (.tup [(.tup [(.var 0)])]), (.var 2)] [.a 0, .a 1, .a 2, .a 3, .a 4, .a 5]) (.tup [(.lit (.str ⟨#[115, 97, 109, 101]⟩))])) [(.ret (.lit (.bl false)))] []), (.forr (.var 3) (.range2 (.lit (.int 1)) (.bin .add (.var 0) (.lit (.int 1)))) [(.asg (.var 6) (.bin .add (.bin .add (.sl (.var 2) none (some (.var 3))) (.lst [(.bin .add (.sl (.ix (.var 2) (.var 3)) none (some (.lit (.int 3)))) (.tup [(.tup [(.lit .non), (.lit .non), (.tup [(.lit (.str ⟨#[115, 107, 105, 112]⟩)), (.var 3)]), (.lit .non)])]))])) (.sl (.var 2) (some (.bin .add (.var 3) (.lit (.int 1)))) none))), (.iff (.cmp .ne (.callP 122 [(.var 1), (.lit (.str ⟨#[111, 108, 100]⟩)), (.lit (.int 1)), (.tup [(.var 0)]), (.var 4), (.var 6)] [.a 0, .a 1, .a 2, .a 3, .a 4, .a 5]) (.tup [(.lit (.str ⟨#[114, 111, 119]⟩)), (.var 3), (.lit (.int 2))])) [(.ret (.lit (.bl false)))] []), (.iff (.cmp .ne (.callP 122 [(.var 1), (.lit (.str ⟨#[111, 108, 100]⟩)), (.lit (.int 1)), (.tup [(.var 0)]), (.var 4), (.bin .add (.sl (.var 2) none (some (.bin .sub (.var 3) (.lit (.int 1))))) (.sl (.var 2) (some (.var 3)) none))] [.a 0, .a 1, .a 2, .a 3, .a 4, .a 5]) (.tup [(.lit (.str ⟨#[114, 111, 119]⟩)), (.bin .sub (.var 3) (.lit (.int 1))), (.lit (.int 2))])) [(.ret (.lit (.bl false)))] [])]), (.asg (.var 7) (.tup [(.lit (.str ⟨#[114, 101, 109, 97, 105, 110, 100, 101, 114, 115]⟩)), (.lit (.int 1)), (.lit (.int 4)), (.tup [(.var 0)]), (.tup [])])), (.asg (.var 8) (.lc [9] (.var 9) (.seq (.tup [(.var 2), (.rv (.var 2))])) [] (.callP 119 [(.var 1), (.tup [(.lit (.str ⟨#[98, 114, 111, 107, 101, 110]⟩)), (.var 7), (.tup [(.lit (.str ⟨#[104, 97, 114, 109]⟩)), (.bi .tuple [(.var 9)]), (.tup [])])])] [.a 0, .a 1]))), (.ret (.cmp .eq (.var 8) (.lst [(.tup [(.lit (.str ⟨#[98, 97, 100]⟩))]), (.ite (.cmp .gt (.var 0) (.lit (.int 0))) (.tup [(.lit (.str ⟨#[114, 111, 119]⟩)), (.lit (.int 0)), (.lit (.int 2))]) (.tup [(.lit (.str ⟨#[98, 97, 100]⟩))]))])))]⟩,
  ⟨3, [(.asg (.var 1) (.bin .add (.lc [2] (.var 2) (.seq (.sl (.var 0) none (some (.lit (.int 1))))) [] (.bi .abs [(.bi .int [(.var 2)])])) (.lst [(.lit (.int 3))]))), (.ret (.and (.callP 123 [] []) (.callP 124 [(.bin .mod (.bi .int [(.ix (.var 1) (.lit (.int 0)))]) (.lit (.int 4)))] [.a 0])))]⟩],
  [⟨some 17, [(1, 18), (2, 19), (3, 20), (4, 21)], [5, 6, 7, 8, 9, 10]⟩]⟩
theorem prc_eq : prc.fns = rows.map fun r => ⟨r.N.length, compSs gi r.N 30 r.d.scope r.d.body⟩ := by kernel_rfl
theorem rows_sc : (rows.all fun r => C8.scC r.N r.ps r.d.scope) = true := by decide +kernel
theorem prc_cls : prc.cls = gi.cls.map (·.2) := by kernel_rfl
theorem gi_nd : gi.flds.Nodup := by decide +kernel
theorem gi_fns : gi.fns = rows.map FRow.fi := rfl
end Ev

set_option Elab.async false
set_option linter.all false
set_option maxRecDepth 100000
namespace Ev
open PySem PySem.Spec PyProof.Rows L2
theorem bn_0 : BnFor rows (0, 2, []) := by
  intro r hr K f fd F ar har
  obtain rfl : row_0 = r := Option.some.inj (show some row_0 = some r from hr)
  have e : arOf row_0.dfl 2 [] 0 row_0.ps = some [.a 0, .a 1] := by kernel_rfl
  obtain rfl := Option.some.inj (e.symm.trans har)
  exact bn_A F 2 [] _ [(true, 0), (true, 1)] (.a <| .a <| .nil) (fun kV doc pm an cdv ct us ws h1 h2 => match us, ws, h1, h2 with | [_, _], [], _, _ => by kernel_rfl)
theorem bn_1 : BnFor rows (1, 2, []) := by
  intro r hr K f fd F ar har
  obtain rfl : row_1 = r := Option.some.inj (show some row_1 = some r from hr)
  have e : arOf row_1.dfl 2 [] 0 row_1.ps = some [.a 0, .a 1] := by kernel_rfl
  obtain rfl := Option.some.inj (e.symm.trans har)
  exact bn_A F 2 [] _ [(true, 0), (true, 1)] (.a <| .a <| .nil) (fun kV doc pm an cdv ct us ws h1 h2 => match us, ws, h1, h2 with | [_, _], [], _, _ => by kernel_rfl)
theorem bn_2 : BnFor rows (2, 2, []) := by
  intro r hr K f fd F ar har
  obtain rfl : row_2 = r := Option.some.inj (show some row_2 = some r from hr)
  have e : arOf row_2.dfl 2 [] 0 row_2.ps = some [.a 0, .a 1] := by kernel_rfl
  obtain rfl := Option.some.inj (e.symm.trans har)
  exact bn_A F 2 [] _ [(true, 0), (true, 1)] (.a <| .a <| .nil) (fun kV doc pm an cdv ct us ws h1 h2 => match us, ws, h1, h2 with | [_, _], [], _, _ => by kernel_rfl)
theorem bn_3 : BnFor rows (3, 3, []) := by
  intro r hr K f fd F ar har
  obtain rfl : row_3 = r := Option.some.inj (show some row_3 = some r from hr)
  have e : arOf row_3.dfl 3 [] 0 row_3.ps = some [.a 0, .a 1, .a 2] := by kernel_rfl
  obtain rfl := Option.some.inj (e.symm.trans har)
  exact bn_A F 3 [] _ [(true, 0), (true, 1), (true, 2)] (.a <| .a <| .a <| .nil) (fun kV doc pm an cdv ct us ws h1 h2 => match us, ws, h1, h2 with | [_, _, _], [], _, _ => by kernel_rfl)
theorem bn_4 : BnFor rows (4, 2, []) := by
  intro r hr K f fd F ar har
  obtain rfl : row_4 = r := Option.some.inj (show some row_4 = some r from hr)
  have e : arOf row_4.dfl 2 [] 0 row_4.ps = some [.a 0, .a 1] := by kernel_rfl
  obtain rfl := Option.some.inj (e.symm.trans har)
  exact bn_A F 2 [] _ [(true, 0), (true, 1)] (.a <| .a <| .nil) (fun kV doc pm an cdv ct us ws h1 h2 => match us, ws, h1, h2 with | [_, _], [], _, _ => by kernel_rfl)
theorem bn_5 : BnFor rows (5, 2, []) := by
  intro r hr K f fd F ar har
  obtain rfl : row_5 = r := Option.some.inj (show some row_5 = some r from hr)
  have e : arOf row_5.dfl 2 [] 0 row_5.ps = some [.a 0, .a 1, .d (.str "old")] := by kernel_rfl
  obtain rfl := Option.some.inj (e.symm.trans har)
  exact bn_B F 2 [] [("age", (.str "old"))] _ [(true, 0), (true, 1), (false, 0)] (by simp [row_5, He.DefD.kws]) (by intro q hq; simpa [row_5, He.DefD.kws, He.Dv.v] using hq) (.a <| .a <| .d rfl (fun _ _ => .str _) <| .nil) (fun D doc pm an cdv ct us mv ws h1 h2 h3 => match us, mv, ws, h1, h2, h3 with | [_, _], [_], [], _, _, _ => ⟨_, _, _, _, _, _, rfl, rfl, rfl⟩)
theorem bn_6 : BnFor rows (5, 2, ["age"]) := by
  intro r hr K f fd F ar har
  obtain rfl : row_5 = r := Option.some.inj (show some row_5 = some r from hr)
  have e : arOf row_5.dfl 2 ["age"] 0 row_5.ps = some [.a 0, .a 1, .a 2] := by kernel_rfl
  obtain rfl := Option.some.inj (e.symm.trans har)
  exact bn_A F 2 ["age"] _ [(true, 0), (true, 1), (true, 2)] (.a <| .a <| .a <| .nil) (fun kV doc pm an cdv ct us ws h1 h2 => match us, ws, h1, h2 with | [_, _], [_], _, _ => by kernel_rfl)
theorem bn_7 : BnFor rows (6, 4, []) := by
  intro r hr K f fd F ar har
  obtain rfl : row_6 = r := Option.some.inj (show some row_6 = some r from hr)
  have e : arOf row_6.dfl 4 [] 0 row_6.ps = some [.a 0, .a 1, .a 2, .a 3, .d (.str "old")] := by kernel_rfl
  obtain rfl := Option.some.inj (e.symm.trans har)
  exact bn_B F 4 [] [("age", (.str "old"))] _ [(true, 0), (true, 1), (true, 2), (true, 3), (false, 0)] (by simp [row_6, He.DefD.kws]) (by intro q hq; simpa [row_6, He.DefD.kws, He.Dv.v] using hq) (.a <| .a <| .a <| .a <| .d rfl (fun _ _ => .str _) <| .nil) (fun D doc pm an cdv ct us mv ws h1 h2 h3 => match us, mv, ws, h1, h2, h3 with | [_, _, _, _], [_], [], _, _, _ => ⟨_, _, _, _, _, _, rfl, rfl, rfl⟩)
theorem bn_8 : BnFor rows (6, 4, ["age"]) := by
  intro r hr K f fd F ar har
  obtain rfl : row_6 = r := Option.some.inj (show some row_6 = some r from hr)
  have e : arOf row_6.dfl 4 ["age"] 0 row_6.ps = some [.a 0, .a 1, .a 2, .a 3, .a 4] := by kernel_rfl
  obtain rfl := Option.some.inj (e.symm.trans har)
  exact bn_A F 4 ["age"] _ [(true, 0), (true, 1), (true, 2), (true, 3), (true, 4)] (.a <| .a <| .a <| .a <| .a <| .nil) (fun kV doc pm an cdv ct us ws h1 h2 => match us, ws, h1, h2 with | [_, _, _, _], [_], _, _ => by kernel_rfl)
theorem bn_9 : BnFor rows (7, 1, []) := by
  intro r hr K f fd F ar har
  obtain rfl : row_7 = r := Option.some.inj (show some row_7 = some r from hr)
  have e : arOf row_7.dfl 1 [] 0 row_7.ps = some [.a 0] := by kernel_rfl
  obtain rfl := Option.some.inj (e.symm.trans har)
  exact bn_A F 1 [] _ [(true, 0)] (.a <| .nil) (fun kV doc pm an cdv ct us ws h1 h2 => match us, ws, h1, h2 with | [_], [], _, _ => by kernel_rfl)
theorem bn_10 : BnFor rows (8, 1, []) := by
  intro r hr K f fd F ar har
  obtain rfl : row_8 = r := Option.some.inj (show some row_8 = some r from hr)
  have e : arOf row_8.dfl 1 [] 0 row_8.ps = some [.a 0] := by kernel_rfl
  obtain rfl := Option.some.inj (e.symm.trans har)
  exact bn_A F 1 [] _ [(true, 0)] (.a <| .nil) (fun kV doc pm an cdv ct us ws h1 h2 => match us, ws, h1, h2 with | [_], [], _, _ => by kernel_rfl)
theorem bn_11 : BnFor rows (9, 1, []) := by
  intro r hr K f fd F ar har
  obtain rfl : row_9 = r := Option.some.inj (show some row_9 = some r from hr)
  have e : arOf row_9.dfl 1 [] 0 row_9.ps = some [.a 0] := by kernel_rfl
  obtain rfl := Option.some.inj (e.symm.trans har)
  exact bn_A F 1 [] _ [(true, 0)] (.a <| .nil) (fun kV doc pm an cdv ct us ws h1 h2 => match us, ws, h1, h2 with | [_], [], _, _ => by kernel_rfl)
theorem bn_12 : BnFor rows (10, 1, []) := by
  intro r hr K f fd F ar har
  obtain rfl : row_10 = r := Option.some.inj (show some row_10 = some r from hr)
  have e : arOf row_10.dfl 1 [] 0 row_10.ps = some [.a 0] := by kernel_rfl
  obtain rfl := Option.some.inj (e.symm.trans har)
  exact bn_A F 1 [] _ [(true, 0)] (.a <| .nil) (fun kV doc pm an cdv ct us ws h1 h2 => match us, ws, h1, h2 with | [_], [], _, _ => by kernel_rfl)
theorem bn_13 : BnFor rows (11, 1, []) := by
  intro r hr K f fd F ar har
  obtain rfl : row_11 = r := Option.some.inj (show some row_11 = some r from hr)
  have e : arOf row_11.dfl 1 [] 0 row_11.ps = some [.a 0] := by kernel_rfl
  obtain rfl := Option.some.inj (e.symm.trans har)
  exact bn_A F 1 [] _ [(true, 0)] (.a <| .nil) (fun kV doc pm an cdv ct us ws h1 h2 => match us, ws, h1, h2 with | [_], [], _, _ => by kernel_rfl)
theorem bn_14 : BnFor rows (12, 2, []) := by
  intro r hr K f fd F ar har
  obtain rfl : row_12 = r := Option.some.inj (show some row_12 = some r from hr)
  have e : arOf row_12.dfl 2 [] 0 row_12.ps = some [.a 0, .a 1] := by kernel_rfl
  obtain rfl := Option.some.inj (e.symm.trans har)
  exact bn_A F 2 [] _ [(true, 0), (true, 1)] (.a <| .a <| .nil) (fun kV doc pm an cdv ct us ws h1 h2 => match us, ws, h1, h2 with | [_, _], [], _, _ => by kernel_rfl)
theorem bn_15 : BnFor rows (13, 4, []) := by
  intro r hr K f fd F ar har
  obtain rfl : row_13 = r := Option.some.inj (show some row_13 = some r from hr)
  have e : arOf row_13.dfl 4 [] 0 row_13.ps = some [.a 0, .a 1, .a 2, .a 3] := by kernel_rfl
  obtain rfl := Option.some.inj (e.symm.trans har)
  exact bn_A F 4 [] _ [(true, 0), (true, 1), (true, 2), (true, 3)] (.a <| .a <| .a <| .a <| .nil) (fun kV doc pm an cdv ct us ws h1 h2 => match us, ws, h1, h2 with | [_, _, _, _], [], _, _ => by kernel_rfl)
theorem bn_16 : BnFor rows (14, 6, []) := by
  intro r hr K f fd F ar har
  obtain rfl : row_14 = r := Option.some.inj (show some row_14 = some r from hr)
  have e : arOf row_14.dfl 6 [] 0 row_14.ps = some [.a 0, .a 1, .a 2, .a 3, .a 4, .a 5] := by kernel_rfl
  obtain rfl := Option.some.inj (e.symm.trans har)
  exact bn_A F 6 [] _ [(true, 0), (true, 1), (true, 2), (true, 3), (true, 4), (true, 5)] (.a <| .a <| .a <| .a <| .a <| .a <| .nil) (fun kV doc pm an cdv ct us ws h1 h2 => match us, ws, h1, h2 with | [_, _, _, _, _, _], [], _, _ => by kernel_rfl)
theorem bn_17 : BnFor rows (15, 5, []) := by
  intro r hr K f fd F ar har
  obtain rfl : row_15 = r := Option.some.inj (show some row_15 = some r from hr)
  have e : arOf row_15.dfl 5 [] 0 row_15.ps = some [.a 0, .a 1, .a 2, .a 3, .a 4] := by kernel_rfl
  obtain rfl := Option.some.inj (e.symm.trans har)
  exact bn_A F 5 [] _ [(true, 0), (true, 1), (true, 2), (true, 3), (true, 4)] (.a <| .a <| .a <| .a <| .a <| .nil) (fun kV doc pm an cdv ct us ws h1 h2 => match us, ws, h1, h2 with | [_, _, _, _, _], [], _, _ => by kernel_rfl)
theorem bn_18 : BnFor rows (16, 2, []) := by
  intro r hr K f fd F ar har
  obtain rfl : row_16 = r := Option.some.inj (show some row_16 = some r from hr)
  have e : arOf row_16.dfl 2 [] 0 row_16.ps = some [.a 0, .a 1] := by kernel_rfl
  obtain rfl := Option.some.inj (e.symm.trans har)
  exact bn_A F 2 [] _ [(true, 0), (true, 1)] (.a <| .a <| .nil) (fun kV doc pm an cdv ct us ws h1 h2 => match us, ws, h1, h2 with | [_, _], [], _, _ => by kernel_rfl)
theorem bn_19 : BnFor rows (17, 6, []) := by
  intro r hr K f fd F ar har
  obtain rfl : row_17 = r := Option.some.inj (show some row_17 = some r from hr)
  have e : arOf row_17.dfl 6 [] 0 row_17.ps = some [.a 0, .a 1, .a 2, .a 3, .a 4, .a 5] := by kernel_rfl
  obtain rfl := Option.some.inj (e.symm.trans har)
  exact bn_A F 6 [] _ [(true, 0), (true, 1), (true, 2), (true, 3), (true, 4), (true, 5)] (.a <| .a <| .a <| .a <| .a <| .a <| .nil) (fun kV doc pm an cdv ct us ws h1 h2 => match us, ws, h1, h2 with | [_, _, _, _, _, _], [], _, _ => by kernel_rfl)
theorem bn_20 : BnFor rows (18, 1, []) := by
  intro r hr K f fd F ar har
  obtain rfl : row_18 = r := Option.some.inj (show some row_18 = some r from hr)
  have e : arOf row_18.dfl 1 [] 0 row_18.ps = some [.a 0] := by kernel_rfl
  obtain rfl := Option.some.inj (e.symm.trans har)
  exact bn_A F 1 [] _ [(true, 0)] (.a <| .nil) (fun kV doc pm an cdv ct us ws h1 h2 => match us, ws, h1, h2 with | [_], [], _, _ => by kernel_rfl)
theorem bn_21 : BnFor rows (19, 1, []) := by
  intro r hr K f fd F ar har
  obtain rfl : row_19 = r := Option.some.inj (show some row_19 = some r from hr)
  have e : arOf row_19.dfl 1 [] 0 row_19.ps = some [.a 0] := by kernel_rfl
  obtain rfl := Option.some.inj (e.symm.trans har)
  exact bn_A F 1 [] _ [(true, 0)] (.a <| .nil) (fun kV doc pm an cdv ct us ws h1 h2 => match us, ws, h1, h2 with | [_], [], _, _ => by kernel_rfl)
theorem bn_22 : BnFor rows (20, 2, []) := by
  intro r hr K f fd F ar har
  obtain rfl : row_20 = r := Option.some.inj (show some row_20 = some r from hr)
  have e : arOf row_20.dfl 2 [] 0 row_20.ps = some [.a 0, .a 1] := by kernel_rfl
  obtain rfl := Option.some.inj (e.symm.trans har)
  exact bn_A F 2 [] _ [(true, 0), (true, 1)] (.a <| .a <| .nil) (fun kV doc pm an cdv ct us ws h1 h2 => match us, ws, h1, h2 with | [_, _], [], _, _ => by kernel_rfl)
theorem bn_23 : BnFor rows (21, 3, []) := by
  intro r hr K f fd F ar har
  obtain rfl : row_21 = r := Option.some.inj (show some row_21 = some r from hr)
  have e : arOf row_21.dfl 3 [] 0 row_21.ps = some [.a 0, .a 1, .a 2] := by kernel_rfl
  obtain rfl := Option.some.inj (e.symm.trans har)
  exact bn_A F 3 [] _ [(true, 0), (true, 1), (true, 2)] (.a <| .a <| .a <| .nil) (fun kV doc pm an cdv ct us ws h1 h2 => match us, ws, h1, h2 with | [_, _, _], [], _, _ => by kernel_rfl)
theorem bn_24 : BnFor rows (22, 2, []) := by
  intro r hr K f fd F ar har
  obtain rfl : row_22 = r := Option.some.inj (show some row_22 = some r from hr)
  have e : arOf row_22.dfl 2 [] 0 row_22.ps = some [.a 0, .a 1] := by kernel_rfl
  obtain rfl := Option.some.inj (e.symm.trans har)
  exact bn_A F 2 [] _ [(true, 0), (true, 1)] (.a <| .a <| .nil) (fun kV doc pm an cdv ct us ws h1 h2 => match us, ws, h1, h2 with | [_, _], [], _, _ => by kernel_rfl)
theorem bn_25 : BnFor rows (23, 2, []) := by
  intro r hr K f fd F ar har
  obtain rfl : row_23 = r := Option.some.inj (show some row_23 = some r from hr)
  have e : arOf row_23.dfl 2 [] 0 row_23.ps = some [.a 0, .a 1] := by kernel_rfl
  obtain rfl := Option.some.inj (e.symm.trans har)
  exact bn_A F 2 [] _ [(true, 0), (true, 1)] (.a <| .a <| .nil) (fun kV doc pm an cdv ct us ws h1 h2 => match us, ws, h1, h2 with | [_, _], [], _, _ => by kernel_rfl)
theorem bn_26 : BnFor rows (24, 1, []) := by
  intro r hr K f fd F ar har
  obtain rfl : row_24 = r := Option.some.inj (show some row_24 = some r from hr)
  have e : arOf row_24.dfl 1 [] 0 row_24.ps = some [.a 0] := by kernel_rfl
  obtain rfl := Option.some.inj (e.symm.trans har)
  exact bn_A F 1 [] _ [(true, 0)] (.a <| .nil) (fun kV doc pm an cdv ct us ws h1 h2 => match us, ws, h1, h2 with | [_], [], _, _ => by kernel_rfl)
theorem bn_27 : BnFor rows (25, 2, []) := by
  intro r hr K f fd F ar har
  obtain rfl : row_25 = r := Option.some.inj (show some row_25 = some r from hr)
  have e : arOf row_25.dfl 2 [] 0 row_25.ps = some [.a 0, .a 1] := by kernel_rfl
  obtain rfl := Option.some.inj (e.symm.trans har)
  exact bn_A F 2 [] _ [(true, 0), (true, 1)] (.a <| .a <| .nil) (fun kV doc pm an cdv ct us ws h1 h2 => match us, ws, h1, h2 with | [_, _], [], _, _ => by kernel_rfl)
theorem bn_28 : BnFor rows (26, 2, []) := by
  intro r hr K f fd F ar har
  obtain rfl : row_26 = r := Option.some.inj (show some row_26 = some r from hr)
  have e : arOf row_26.dfl 2 [] 0 row_26.ps = some [.a 0, .a 1] := by kernel_rfl
  obtain rfl := Option.some.inj (e.symm.trans har)
  exact bn_A F 2 [] _ [(true, 0), (true, 1)] (.a <| .a <| .nil) (fun kV doc pm an cdv ct us ws h1 h2 => match us, ws, h1, h2 with | [_, _], [], _, _ => by kernel_rfl)
theorem bn_29 : BnFor rows (27, 2, []) := by
  intro r hr K f fd F ar har
  obtain rfl : row_27 = r := Option.some.inj (show some row_27 = some r from hr)
  have e : arOf row_27.dfl 2 [] 0 row_27.ps = some [.a 0, .a 1] := by kernel_rfl
  obtain rfl := Option.some.inj (e.symm.trans har)
  exact bn_A F 2 [] _ [(true, 0), (true, 1)] (.a <| .a <| .nil) (fun kV doc pm an cdv ct us ws h1 h2 => match us, ws, h1, h2 with | [_, _], [], _, _ => by kernel_rfl)
theorem bn_30 : BnFor rows (28, 2, []) := by
  intro r hr K f fd F ar har
  obtain rfl : row_28 = r := Option.some.inj (show some row_28 = some r from hr)
  have e : arOf row_28.dfl 2 [] 0 row_28.ps = some [.a 0, .a 1] := by kernel_rfl
  obtain rfl := Option.some.inj (e.symm.trans har)
  exact bn_A F 2 [] _ [(true, 0), (true, 1)] (.a <| .a <| .nil) (fun kV doc pm an cdv ct us ws h1 h2 => match us, ws, h1, h2 with | [_, _], [], _, _ => by kernel_rfl)
theorem bn_31 : BnFor rows (29, 2, []) := by
  intro r hr K f fd F ar har
  obtain rfl : row_29 = r := Option.some.inj (show some row_29 = some r from hr)
  have e : arOf row_29.dfl 2 [] 0 row_29.ps = some [.a 0, .a 1] := by kernel_rfl
  obtain rfl := Option.some.inj (e.symm.trans har)
  exact bn_A F 2 [] _ [(true, 0), (true, 1)] (.a <| .a <| .nil) (fun kV doc pm an cdv ct us ws h1 h2 => match us, ws, h1, h2 with | [_, _], [], _, _ => by kernel_rfl)
theorem bn_32 : BnFor rows (30, 1, []) := by
  intro r hr K f fd F ar har
  obtain rfl : row_30 = r := Option.some.inj (show some row_30 = some r from hr)
  have e : arOf row_30.dfl 1 [] 0 row_30.ps = some [.a 0] := by kernel_rfl
  obtain rfl := Option.some.inj (e.symm.trans har)
  exact bn_A F 1 [] _ [(true, 0)] (.a <| .nil) (fun kV doc pm an cdv ct us ws h1 h2 => match us, ws, h1, h2 with | [_], [], _, _ => by kernel_rfl)
theorem bn_33 : BnFor rows (31, 1, []) := by
  intro r hr K f fd F ar har
  obtain rfl : row_31 = r := Option.some.inj (show some row_31 = some r from hr)
  have e : arOf row_31.dfl 1 [] 0 row_31.ps = some [.a 0] := by kernel_rfl
  obtain rfl := Option.some.inj (e.symm.trans har)
  exact bn_A F 1 [] _ [(true, 0)] (.a <| .nil) (fun kV doc pm an cdv ct us ws h1 h2 => match us, ws, h1, h2 with | [_], [], _, _ => by kernel_rfl)
theorem bn_34 : BnFor rows (32, 4, []) := by
  intro r hr K f fd F ar har
  obtain rfl : row_32 = r := Option.some.inj (show some row_32 = some r from hr)
  have e : arOf row_32.dfl 4 [] 0 row_32.ps = some [.a 0, .a 1, .a 2, .a 3] := by kernel_rfl
  obtain rfl := Option.some.inj (e.symm.trans har)
  exact bn_A F 4 [] _ [(true, 0), (true, 1), (true, 2), (true, 3)] (.a <| .a <| .a <| .a <| .nil) (fun kV doc pm an cdv ct us ws h1 h2 => match us, ws, h1, h2 with | [_, _, _, _], [], _, _ => by kernel_rfl)
theorem bn_35 : BnFor rows (33, 2, []) := by
  intro r hr K f fd F ar har
  obtain rfl : row_33 = r := Option.some.inj (show some row_33 = some r from hr)
  have e : arOf row_33.dfl 2 [] 0 row_33.ps = some [.a 0, .a 1] := by kernel_rfl
  obtain rfl := Option.some.inj (e.symm.trans har)
  exact bn_A F 2 [] _ [(true, 0), (true, 1)] (.a <| .a <| .nil) (fun kV doc pm an cdv ct us ws h1 h2 => match us, ws, h1, h2 with | [_, _], [], _, _ => by kernel_rfl)
theorem bn_36 : BnFor rows (34, 3, []) := by
  intro r hr K f fd F ar har
  obtain rfl : row_34 = r := Option.some.inj (show some row_34 = some r from hr)
  have e : arOf row_34.dfl 3 [] 0 row_34.ps = some [.a 0, .a 1, .a 2] := by kernel_rfl
  obtain rfl := Option.some.inj (e.symm.trans har)
  exact bn_A F 3 [] _ [(true, 0), (true, 1), (true, 2)] (.a <| .a <| .a <| .nil) (fun kV doc pm an cdv ct us ws h1 h2 => match us, ws, h1, h2 with | [_, _, _], [], _, _ => by kernel_rfl)
theorem bn_37 : BnFor rows (35, 3, []) := by
  intro r hr K f fd F ar har
  obtain rfl : row_35 = r := Option.some.inj (show some row_35 = some r from hr)
  have e : arOf row_35.dfl 3 [] 0 row_35.ps = some [.a 0, .a 1, .a 2] := by kernel_rfl
  obtain rfl := Option.some.inj (e.symm.trans har)
  exact bn_A F 3 [] _ [(true, 0), (true, 1), (true, 2)] (.a <| .a <| .a <| .nil) (fun kV doc pm an cdv ct us ws h1 h2 => match us, ws, h1, h2 with | [_, _, _], [], _, _ => by kernel_rfl)
theorem bn_38 : BnFor rows (36, 3, []) := by
  intro r hr K f fd F ar har
  obtain rfl : row_36 = r := Option.some.inj (show some row_36 = some r from hr)
  have e : arOf row_36.dfl 3 [] 0 row_36.ps = some [.a 0, .a 1, .a 2] := by kernel_rfl
  obtain rfl := Option.some.inj (e.symm.trans har)
  exact bn_A F 3 [] _ [(true, 0), (true, 1), (true, 2)] (.a <| .a <| .a <| .nil) (fun kV doc pm an cdv ct us ws h1 h2 => match us, ws, h1, h2 with | [_, _, _], [], _, _ => by kernel_rfl)
theorem bn_39 : BnFor rows (37, 2, []) := by
  intro r hr K f fd F ar har
  obtain rfl : row_37 = r := Option.some.inj (show some row_37 = some r from hr)
  have e : arOf row_37.dfl 2 [] 0 row_37.ps = some [.a 0, .a 1] := by kernel_rfl
  obtain rfl := Option.some.inj (e.symm.trans har)
  exact bn_A F 2 [] _ [(true, 0), (true, 1)] (.a <| .a <| .nil) (fun kV doc pm an cdv ct us ws h1 h2 => match us, ws, h1, h2 with | [_, _], [], _, _ => by kernel_rfl)
theorem bn_40 : BnFor rows (38, 1, []) := by
  intro r hr K f fd F ar har
  obtain rfl : row_38 = r := Option.some.inj (show some row_38 = some r from hr)
  have e : arOf row_38.dfl 1 [] 0 row_38.ps = some [.a 0] := by kernel_rfl
  obtain rfl := Option.some.inj (e.symm.trans har)
  exact bn_A F 1 [] _ [(true, 0)] (.a <| .nil) (fun kV doc pm an cdv ct us ws h1 h2 => match us, ws, h1, h2 with | [_], [], _, _ => by kernel_rfl)
theorem bn_41 : BnFor rows (39, 2, []) := by
  intro r hr K f fd F ar har
  obtain rfl : row_39 = r := Option.some.inj (show some row_39 = some r from hr)
  have e : arOf row_39.dfl 2 [] 0 row_39.ps = some [.a 0, .a 1] := by kernel_rfl
  obtain rfl := Option.some.inj (e.symm.trans har)
  exact bn_A F 2 [] _ [(true, 0), (true, 1)] (.a <| .a <| .nil) (fun kV doc pm an cdv ct us ws h1 h2 => match us, ws, h1, h2 with | [_, _], [], _, _ => by kernel_rfl)
theorem bn_42 : BnFor rows (40, 5, []) := by
  intro r hr K f fd F ar har
  obtain rfl : row_40 = r := Option.some.inj (show some row_40 = some r from hr)
  have e : arOf row_40.dfl 5 [] 0 row_40.ps = some [.a 0, .a 1, .a 2, .a 3, .a 4] := by kernel_rfl
  obtain rfl := Option.some.inj (e.symm.trans har)
  exact bn_A F 5 [] _ [(true, 0), (true, 1), (true, 2), (true, 3), (true, 4)] (.a <| .a <| .a <| .a <| .a <| .nil) (fun kV doc pm an cdv ct us ws h1 h2 => match us, ws, h1, h2 with | [_, _, _, _, _], [], _, _ => by kernel_rfl)
theorem bn_43 : BnFor rows (41, 3, []) := by
  intro r hr K f fd F ar har
  obtain rfl : row_41 = r := Option.some.inj (show some row_41 = some r from hr)
  have e : arOf row_41.dfl 3 [] 0 row_41.ps = some [.a 0, .a 1, .a 2] := by kernel_rfl
  obtain rfl := Option.some.inj (e.symm.trans har)
  exact bn_A F 3 [] _ [(true, 0), (true, 1), (true, 2)] (.a <| .a <| .a <| .nil) (fun kV doc pm an cdv ct us ws h1 h2 => match us, ws, h1, h2 with | [_, _, _], [], _, _ => by kernel_rfl)
theorem bn_44 : BnFor rows (42, 2, []) := by
  intro r hr K f fd F ar har
  obtain rfl : row_42 = r := Option.some.inj (show some row_42 = some r from hr)
  have e : arOf row_42.dfl 2 [] 0 row_42.ps = some [.a 0, .a 1] := by kernel_rfl
  obtain rfl := Option.some.inj (e.symm.trans har)
  exact bn_A F 2 [] _ [(true, 0), (true, 1)] (.a <| .a <| .nil) (fun kV doc pm an cdv ct us ws h1 h2 => match us, ws, h1, h2 with | [_, _], [], _, _ => by kernel_rfl)
theorem bn_45 : BnFor rows (43, 2, []) := by
  intro r hr K f fd F ar har
  obtain rfl : row_43 = r := Option.some.inj (show some row_43 = some r from hr)
  have e : arOf row_43.dfl 2 [] 0 row_43.ps = some [.a 0, .a 1] := by kernel_rfl
  obtain rfl := Option.some.inj (e.symm.trans har)
  exact bn_A F 2 [] _ [(true, 0), (true, 1)] (.a <| .a <| .nil) (fun kV doc pm an cdv ct us ws h1 h2 => match us, ws, h1, h2 with | [_, _], [], _, _ => by kernel_rfl)
theorem bn_46 : BnFor rows (44, 2, []) := by
  intro r hr K f fd F ar har
  obtain rfl : row_44 = r := Option.some.inj (show some row_44 = some r from hr)
  have e : arOf row_44.dfl 2 [] 0 row_44.ps = some [.a 0, .a 1] := by kernel_rfl
  obtain rfl := Option.some.inj (e.symm.trans har)
  exact bn_A F 2 [] _ [(true, 0), (true, 1)] (.a <| .a <| .nil) (fun kV doc pm an cdv ct us ws h1 h2 => match us, ws, h1, h2 with | [_, _], [], _, _ => by kernel_rfl)
theorem bn_47 : BnFor rows (45, 2, []) := by
  intro r hr K f fd F ar har
  obtain rfl : row_45 = r := Option.some.inj (show some row_45 = some r from hr)
  have e : arOf row_45.dfl 2 [] 0 row_45.ps = some [.a 0, .a 1] := by kernel_rfl
  obtain rfl := Option.some.inj (e.symm.trans har)
  exact bn_A F 2 [] _ [(true, 0), (true, 1)] (.a <| .a <| .nil) (fun kV doc pm an cdv ct us ws h1 h2 => match us, ws, h1, h2 with | [_, _], [], _, _ => by kernel_rfl)
theorem bn_48 : BnFor rows (46, 2, []) := by
  intro r hr K f fd F ar har
  obtain rfl : row_46 = r := Option.some.inj (show some row_46 = some r from hr)
  have e : arOf row_46.dfl 2 [] 0 row_46.ps = some [.a 0, .a 1] := by kernel_rfl
  obtain rfl := Option.some.inj (e.symm.trans har)
  exact bn_A F 2 [] _ [(true, 0), (true, 1)] (.a <| .a <| .nil) (fun kV doc pm an cdv ct us ws h1 h2 => match us, ws, h1, h2 with | [_, _], [], _, _ => by kernel_rfl)
theorem bn_49 : BnFor rows (47, 3, []) := by
  intro r hr K f fd F ar har
  obtain rfl : row_47 = r := Option.some.inj (show some row_47 = some r from hr)
  have e : arOf row_47.dfl 3 [] 0 row_47.ps = some [.a 0, .a 1, .a 2] := by kernel_rfl
  obtain rfl := Option.some.inj (e.symm.trans har)
  exact bn_A F 3 [] _ [(true, 0), (true, 1), (true, 2)] (.a <| .a <| .a <| .nil) (fun kV doc pm an cdv ct us ws h1 h2 => match us, ws, h1, h2 with | [_, _, _], [], _, _ => by kernel_rfl)
theorem bn_50 : BnFor rows (48, 2, []) := by
  intro r hr K f fd F ar har
  obtain rfl : row_48 = r := Option.some.inj (show some row_48 = some r from hr)
  have e : arOf row_48.dfl 2 [] 0 row_48.ps = some [.a 0, .a 1] := by kernel_rfl
  obtain rfl := Option.some.inj (e.symm.trans har)
  exact bn_A F 2 [] _ [(true, 0), (true, 1)] (.a <| .a <| .nil) (fun kV doc pm an cdv ct us ws h1 h2 => match us, ws, h1, h2 with | [_, _], [], _, _ => by kernel_rfl)
theorem bn_51 : BnFor rows (49, 2, []) := by
  intro r hr K f fd F ar har
  obtain rfl : row_49 = r := Option.some.inj (show some row_49 = some r from hr)
  have e : arOf row_49.dfl 2 [] 0 row_49.ps = some [.a 0, .a 1] := by kernel_rfl
  obtain rfl := Option.some.inj (e.symm.trans har)
  exact bn_A F 2 [] _ [(true, 0), (true, 1)] (.a <| .a <| .nil) (fun kV doc pm an cdv ct us ws h1 h2 => match us, ws, h1, h2 with | [_, _], [], _, _ => by kernel_rfl)
theorem bn_52 : BnFor rows (50, 2, []) := by
  intro r hr K f fd F ar har
  obtain rfl : row_50 = r := Option.some.inj (show some row_50 = some r from hr)
  have e : arOf row_50.dfl 2 [] 0 row_50.ps = some [.a 0, .a 1] := by kernel_rfl
  obtain rfl := Option.some.inj (e.symm.trans har)
  exact bn_A F 2 [] _ [(true, 0), (true, 1)] (.a <| .a <| .nil) (fun kV doc pm an cdv ct us ws h1 h2 => match us, ws, h1, h2 with | [_, _], [], _, _ => by kernel_rfl)
theorem bn_53 : BnFor rows (51, 4, []) := by
  intro r hr K f fd F ar har
  obtain rfl : row_51 = r := Option.some.inj (show some row_51 = some r from hr)
  have e : arOf row_51.dfl 4 [] 0 row_51.ps = some [.a 0, .a 1, .a 2, .a 3] := by kernel_rfl
  obtain rfl := Option.some.inj (e.symm.trans har)
  exact bn_A F 4 [] _ [(true, 0), (true, 1), (true, 2), (true, 3)] (.a <| .a <| .a <| .a <| .nil) (fun kV doc pm an cdv ct us ws h1 h2 => match us, ws, h1, h2 with | [_, _, _, _], [], _, _ => by kernel_rfl)
theorem bn_54 : BnFor rows (52, 2, []) := by
  intro r hr K f fd F ar har
  obtain rfl : row_52 = r := Option.some.inj (show some row_52 = some r from hr)
  have e : arOf row_52.dfl 2 [] 0 row_52.ps = some [.a 0, .a 1] := by kernel_rfl
  obtain rfl := Option.some.inj (e.symm.trans har)
  exact bn_A F 2 [] _ [(true, 0), (true, 1)] (.a <| .a <| .nil) (fun kV doc pm an cdv ct us ws h1 h2 => match us, ws, h1, h2 with | [_, _], [], _, _ => by kernel_rfl)
theorem bn_55 : BnFor rows (53, 2, []) := by
  intro r hr K f fd F ar har
  obtain rfl : row_53 = r := Option.some.inj (show some row_53 = some r from hr)
  have e : arOf row_53.dfl 2 [] 0 row_53.ps = some [.a 0, .a 1] := by kernel_rfl
  obtain rfl := Option.some.inj (e.symm.trans har)
  exact bn_A F 2 [] _ [(true, 0), (true, 1)] (.a <| .a <| .nil) (fun kV doc pm an cdv ct us ws h1 h2 => match us, ws, h1, h2 with | [_, _], [], _, _ => by kernel_rfl)
theorem bn_56 : BnFor rows (54, 1, []) := by
  intro r hr K f fd F ar har
  obtain rfl : row_54 = r := Option.some.inj (show some row_54 = some r from hr)
  have e : arOf row_54.dfl 1 [] 0 row_54.ps = some [.a 0] := by kernel_rfl
  obtain rfl := Option.some.inj (e.symm.trans har)
  exact bn_A F 1 [] _ [(true, 0)] (.a <| .nil) (fun kV doc pm an cdv ct us ws h1 h2 => match us, ws, h1, h2 with | [_], [], _, _ => by kernel_rfl)
theorem bn_57 : BnFor rows (55, 4, []) := by
  intro r hr K f fd F ar har
  obtain rfl : row_55 = r := Option.some.inj (show some row_55 = some r from hr)
  have e : arOf row_55.dfl 4 [] 0 row_55.ps = some [.a 0, .a 1, .a 2, .a 3] := by kernel_rfl
  obtain rfl := Option.some.inj (e.symm.trans har)
  exact bn_A F 4 [] _ [(true, 0), (true, 1), (true, 2), (true, 3)] (.a <| .a <| .a <| .a <| .nil) (fun kV doc pm an cdv ct us ws h1 h2 => match us, ws, h1, h2 with | [_, _, _, _], [], _, _ => by kernel_rfl)
theorem bn_58 : BnFor rows (56, 6, []) := by
  intro r hr K f fd F ar har
  obtain rfl : row_56 = r := Option.some.inj (show some row_56 = some r from hr)
  have e : arOf row_56.dfl 6 [] 0 row_56.ps = some [.a 0, .a 1, .a 2, .a 3, .a 4, .a 5] := by kernel_rfl
  obtain rfl := Option.some.inj (e.symm.trans har)
  exact bn_A F 6 [] _ [(true, 0), (true, 1), (true, 2), (true, 3), (true, 4), (true, 5)] (.a <| .a <| .a <| .a <| .a <| .a <| .nil) (fun kV doc pm an cdv ct us ws h1 h2 => match us, ws, h1, h2 with | [_, _, _, _, _, _], [], _, _ => by kernel_rfl)
theorem bn_59 : BnFor rows (57, 5, []) := by
  intro r hr K f fd F ar har
  obtain rfl : row_57 = r := Option.some.inj (show some row_57 = some r from hr)
  have e : arOf row_57.dfl 5 [] 0 row_57.ps = some [.a 0, .a 1, .a 2, .a 3, .a 4] := by kernel_rfl
  obtain rfl := Option.some.inj (e.symm.trans har)
  exact bn_A F 5 [] _ [(true, 0), (true, 1), (true, 2), (true, 3), (true, 4)] (.a <| .a <| .a <| .a <| .a <| .nil) (fun kV doc pm an cdv ct us ws h1 h2 => match us, ws, h1, h2 with | [_, _, _, _, _], [], _, _ => by kernel_rfl)
theorem bn_60 : BnFor rows (58, 3, ["is_harmless"]) := by
  intro r hr K f fd F ar har
  obtain rfl : row_58 = r := Option.some.inj (show some row_58 = some r from hr)
  have e : arOf row_58.dfl 3 ["is_harmless"] 0 row_58.ps = some [.a 0, .a 1, .a 2, .a 3] := by kernel_rfl
  obtain rfl := Option.some.inj (e.symm.trans har)
  exact bn_A F 3 ["is_harmless"] _ [(true, 0), (true, 1), (true, 2), (true, 3)] (.a <| .a <| .a <| .a <| .nil) (fun kV doc pm an cdv ct us ws h1 h2 => match us, ws, h1, h2 with | [_, _, _], [_], _, _ => by kernel_rfl)
theorem bn_61 : BnFor rows (59, 3, []) := by
  intro r hr K f fd F ar har
  obtain rfl : row_59 = r := Option.some.inj (show some row_59 = some r from hr)
  have e : arOf row_59.dfl 3 [] 0 row_59.ps = some [.a 0, .a 1, .a 2] := by kernel_rfl
  obtain rfl := Option.some.inj (e.symm.trans har)
  exact bn_A F 3 [] _ [(true, 0), (true, 1), (true, 2)] (.a <| .a <| .a <| .nil) (fun kV doc pm an cdv ct us ws h1 h2 => match us, ws, h1, h2 with | [_, _, _], [], _, _ => by kernel_rfl)
theorem bn_62 : BnFor rows (60, 2, []) := by
  intro r hr K f fd F ar har
  obtain rfl : row_60 = r := Option.some.inj (show some row_60 = some r from hr)
  have e : arOf row_60.dfl 2 [] 0 row_60.ps = some [.a 0, .a 1] := by kernel_rfl
  obtain rfl := Option.some.inj (e.symm.trans har)
  exact bn_A F 2 [] _ [(true, 0), (true, 1)] (.a <| .a <| .nil) (fun kV doc pm an cdv ct us ws h1 h2 => match us, ws, h1, h2 with | [_, _], [], _, _ => by kernel_rfl)
theorem bn_63 : BnFor rows (61, 2, []) := by
  intro r hr K f fd F ar har
  obtain rfl : row_61 = r := Option.some.inj (show some row_61 = some r from hr)
  have e : arOf row_61.dfl 2 [] 0 row_61.ps = some [.a 0, .a 1] := by kernel_rfl
  obtain rfl := Option.some.inj (e.symm.trans har)
  exact bn_A F 2 [] _ [(true, 0), (true, 1)] (.a <| .a <| .nil) (fun kV doc pm an cdv ct us ws h1 h2 => match us, ws, h1, h2 with | [_, _], [], _, _ => by kernel_rfl)
theorem bn_64 : BnFor rows (62, 2, []) := by
  intro r hr K f fd F ar har
  obtain rfl : row_62 = r := Option.some.inj (show some row_62 = some r from hr)
  have e : arOf row_62.dfl 2 [] 0 row_62.ps = some [.a 0, .a 1] := by kernel_rfl
  obtain rfl := Option.some.inj (e.symm.trans har)
  exact bn_A F 2 [] _ [(true, 0), (true, 1)] (.a <| .a <| .nil) (fun kV doc pm an cdv ct us ws h1 h2 => match us, ws, h1, h2 with | [_, _], [], _, _ => by kernel_rfl)
theorem bn_65 : BnFor rows (63, 1, []) := by
  intro r hr K f fd F ar har
  obtain rfl : row_63 = r := Option.some.inj (show some row_63 = some r from hr)
  have e : arOf row_63.dfl 1 [] 0 row_63.ps = some [.a 0] := by kernel_rfl
  obtain rfl := Option.some.inj (e.symm.trans har)
  exact bn_A F 1 [] _ [(true, 0)] (.a <| .nil) (fun kV doc pm an cdv ct us ws h1 h2 => match us, ws, h1, h2 with | [_], [], _, _ => by kernel_rfl)
theorem bn_66 : BnFor rows (64, 3, []) := by
  intro r hr K f fd F ar har
  obtain rfl : row_64 = r := Option.some.inj (show some row_64 = some r from hr)
  have e : arOf row_64.dfl 3 [] 0 row_64.ps = some [.a 0, .a 1, .a 2] := by kernel_rfl
  obtain rfl := Option.some.inj (e.symm.trans har)
  exact bn_A F 3 [] _ [(true, 0), (true, 1), (true, 2)] (.a <| .a <| .a <| .nil) (fun kV doc pm an cdv ct us ws h1 h2 => match us, ws, h1, h2 with | [_, _, _], [], _, _ => by kernel_rfl)
theorem bn_67 : BnFor rows (65, 6, []) := by
  intro r hr K f fd F ar har
  obtain rfl : row_65 = r := Option.some.inj (show some row_65 = some r from hr)
  have e : arOf row_65.dfl 6 [] 0 row_65.ps = some [.a 0, .a 1, .a 2, .a 3, .a 4, .a 5] := by kernel_rfl
  obtain rfl := Option.some.inj (e.symm.trans har)
  exact bn_A F 6 [] _ [(true, 0), (true, 1), (true, 2), (true, 3), (true, 4), (true, 5)] (.a <| .a <| .a <| .a <| .a <| .a <| .nil) (fun kV doc pm an cdv ct us ws h1 h2 => match us, ws, h1, h2 with | [_, _, _, _, _, _], [], _, _ => by kernel_rfl)
theorem bn_68 : BnFor rows (66, 3, []) := by
  intro r hr K f fd F ar har
  obtain rfl : row_66 = r := Option.some.inj (show some row_66 = some r from hr)
  have e : arOf row_66.dfl 3 [] 0 row_66.ps = some [.a 0, .a 1, .a 2] := by kernel_rfl
  obtain rfl := Option.some.inj (e.symm.trans har)
  exact bn_A F 3 [] _ [(true, 0), (true, 1), (true, 2)] (.a <| .a <| .a <| .nil) (fun kV doc pm an cdv ct us ws h1 h2 => match us, ws, h1, h2 with | [_, _, _], [], _, _ => by kernel_rfl)
theorem bn_69 : BnFor rows (67, 3, []) := by
  intro r hr K f fd F ar har
  obtain rfl : row_67 = r := Option.some.inj (show some row_67 = some r from hr)
  have e : arOf row_67.dfl 3 [] 0 row_67.ps = some [.a 0, .a 1, .a 2] := by kernel_rfl
  obtain rfl := Option.some.inj (e.symm.trans har)
  exact bn_A F 3 [] _ [(true, 0), (true, 1), (true, 2)] (.a <| .a <| .a <| .nil) (fun kV doc pm an cdv ct us ws h1 h2 => match us, ws, h1, h2 with | [_, _, _], [], _, _ => by kernel_rfl)
theorem bn_70 : BnFor rows (68, 4, []) := by
  intro r hr K f fd F ar har
  obtain rfl : row_68 = r := Option.some.inj (show some row_68 = some r from hr)
  have e : arOf row_68.dfl 4 [] 0 row_68.ps = some [.a 0, .a 1, .a 2, .a 3] := by kernel_rfl
  obtain rfl := Option.some.inj (e.symm.trans har)
  exact bn_A F 4 [] _ [(true, 0), (true, 1), (true, 2), (true, 3)] (.a <| .a <| .a <| .a <| .nil) (fun kV doc pm an cdv ct us ws h1 h2 => match us, ws, h1, h2 with | [_, _, _, _], [], _, _ => by kernel_rfl)
theorem bn_71 : BnFor rows (69, 3, []) := by
  intro r hr K f fd F ar har
  obtain rfl : row_69 = r := Option.some.inj (show some row_69 = some r from hr)
  have e : arOf row_69.dfl 3 [] 0 row_69.ps = some [.a 0, .a 1, .a 2] := by kernel_rfl
  obtain rfl := Option.some.inj (e.symm.trans har)
  exact bn_A F 3 [] _ [(true, 0), (true, 1), (true, 2)] (.a <| .a <| .a <| .nil) (fun kV doc pm an cdv ct us ws h1 h2 => match us, ws, h1, h2 with | [_, _, _], [], _, _ => by kernel_rfl)
theorem bn_72 : BnFor rows (70, 6, []) := by
  intro r hr K f fd F ar har
  obtain rfl : row_70 = r := Option.some.inj (show some row_70 = some r from hr)
  have e : arOf row_70.dfl 6 [] 0 row_70.ps = some [.a 0, .a 1, .a 2, .a 3, .a 4, .a 5] := by kernel_rfl
  obtain rfl := Option.some.inj (e.symm.trans har)
  exact bn_A F 6 [] _ [(true, 0), (true, 1), (true, 2), (true, 3), (true, 4), (true, 5)] (.a <| .a <| .a <| .a <| .a <| .a <| .nil) (fun kV doc pm an cdv ct us ws h1 h2 => match us, ws, h1, h2 with | [_, _, _, _, _, _], [], _, _ => by kernel_rfl)
theorem bn_73 : BnFor rows (71, 3, []) := by
  intro r hr K f fd F ar har
  obtain rfl : row_71 = r := Option.some.inj (show some row_71 = some r from hr)
  have e : arOf row_71.dfl 3 [] 0 row_71.ps = some [.a 0, .a 1, .a 2] := by kernel_rfl
  obtain rfl := Option.some.inj (e.symm.trans har)
  exact bn_A F 3 [] _ [(true, 0), (true, 1), (true, 2)] (.a <| .a <| .a <| .nil) (fun kV doc pm an cdv ct us ws h1 h2 => match us, ws, h1, h2 with | [_, _, _], [], _, _ => by kernel_rfl)
theorem bn_74 : BnFor rows (72, 2, []) := by
  intro r hr K f fd F ar har
  obtain rfl : row_72 = r := Option.some.inj (show some row_72 = some r from hr)
  have e : arOf row_72.dfl 2 [] 0 row_72.ps = some [.a 0, .a 1] := by kernel_rfl
  obtain rfl := Option.some.inj (e.symm.trans har)
  exact bn_A F 2 [] _ [(true, 0), (true, 1)] (.a <| .a <| .nil) (fun kV doc pm an cdv ct us ws h1 h2 => match us, ws, h1, h2 with | [_, _], [], _, _ => by kernel_rfl)
theorem bn_75 : BnFor rows (73, 2, []) := by
  intro r hr K f fd F ar har
  obtain rfl : row_73 = r := Option.some.inj (show some row_73 = some r from hr)
  have e : arOf row_73.dfl 2 [] 0 row_73.ps = some [.a 0, .a 1] := by kernel_rfl
  obtain rfl := Option.some.inj (e.symm.trans har)
  exact bn_A F 2 [] _ [(true, 0), (true, 1)] (.a <| .a <| .nil) (fun kV doc pm an cdv ct us ws h1 h2 => match us, ws, h1, h2 with | [_, _], [], _, _ => by kernel_rfl)
theorem bn_76 : BnFor rows (74, 2, []) := by
  intro r hr K f fd F ar har
  obtain rfl : row_74 = r := Option.some.inj (show some row_74 = some r from hr)
  have e : arOf row_74.dfl 2 [] 0 row_74.ps = some [.a 0, .a 1] := by kernel_rfl
  obtain rfl := Option.some.inj (e.symm.trans har)
  exact bn_A F 2 [] _ [(true, 0), (true, 1)] (.a <| .a <| .nil) (fun kV doc pm an cdv ct us ws h1 h2 => match us, ws, h1, h2 with | [_, _], [], _, _ => by kernel_rfl)
theorem bn_77 : BnFor rows (75, 2, []) := by
  intro r hr K f fd F ar har
  obtain rfl : row_75 = r := Option.some.inj (show some row_75 = some r from hr)
  have e : arOf row_75.dfl 2 [] 0 row_75.ps = some [.a 0, .a 1] := by kernel_rfl
  obtain rfl := Option.some.inj (e.symm.trans har)
  exact bn_A F 2 [] _ [(true, 0), (true, 1)] (.a <| .a <| .nil) (fun kV doc pm an cdv ct us ws h1 h2 => match us, ws, h1, h2 with | [_, _], [], _, _ => by kernel_rfl)
theorem bn_78 : BnFor rows (76, 2, []) := by
  intro r hr K f fd F ar har
  obtain rfl : row_76 = r := Option.some.inj (show some row_76 = some r from hr)
  have e : arOf row_76.dfl 2 [] 0 row_76.ps = some [.a 0, .a 1] := by kernel_rfl
  obtain rfl := Option.some.inj (e.symm.trans har)
  exact bn_A F 2 [] _ [(true, 0), (true, 1)] (.a <| .a <| .nil) (fun kV doc pm an cdv ct us ws h1 h2 => match us, ws, h1, h2 with | [_, _], [], _, _ => by kernel_rfl)
theorem bn_79 : BnFor rows (77, 3, []) := by
  intro r hr K f fd F ar har
  obtain rfl : row_77 = r := Option.some.inj (show some row_77 = some r from hr)
  have e : arOf row_77.dfl 3 [] 0 row_77.ps = some [.a 0, .a 1, .a 2] := by kernel_rfl
  obtain rfl := Option.some.inj (e.symm.trans har)
  exact bn_A F 3 [] _ [(true, 0), (true, 1), (true, 2)] (.a <| .a <| .a <| .nil) (fun kV doc pm an cdv ct us ws h1 h2 => match us, ws, h1, h2 with | [_, _, _], [], _, _ => by kernel_rfl)
theorem bn_80 : BnFor rows (78, 4, []) := by
  intro r hr K f fd F ar har
  obtain rfl : row_78 = r := Option.some.inj (show some row_78 = some r from hr)
  have e : arOf row_78.dfl 4 [] 0 row_78.ps = some [.a 0, .a 1, .a 2, .a 3] := by kernel_rfl
  obtain rfl := Option.some.inj (e.symm.trans har)
  exact bn_A F 4 [] _ [(true, 0), (true, 1), (true, 2), (true, 3)] (.a <| .a <| .a <| .a <| .nil) (fun kV doc pm an cdv ct us ws h1 h2 => match us, ws, h1, h2 with | [_, _, _, _], [], _, _ => by kernel_rfl)
theorem bn_81 : BnFor rows (79, 3, []) := by
  intro r hr K f fd F ar har
  obtain rfl : row_79 = r := Option.some.inj (show some row_79 = some r from hr)
  have e : arOf row_79.dfl 3 [] 0 row_79.ps = some [.a 0, .a 1, .a 2] := by kernel_rfl
  obtain rfl := Option.some.inj (e.symm.trans har)
  exact bn_A F 3 [] _ [(true, 0), (true, 1), (true, 2)] (.a <| .a <| .a <| .nil) (fun kV doc pm an cdv ct us ws h1 h2 => match us, ws, h1, h2 with | [_, _, _], [], _, _ => by kernel_rfl)
theorem bn_82 : BnFor rows (80, 2, []) := by
  intro r hr K f fd F ar har
  obtain rfl : row_80 = r := Option.some.inj (show some row_80 = some r from hr)
  have e : arOf row_80.dfl 2 [] 0 row_80.ps = some [.a 0, .a 1] := by kernel_rfl
  obtain rfl := Option.some.inj (e.symm.trans har)
  exact bn_A F 2 [] _ [(true, 0), (true, 1)] (.a <| .a <| .nil) (fun kV doc pm an cdv ct us ws h1 h2 => match us, ws, h1, h2 with | [_, _], [], _, _ => by kernel_rfl)
theorem bn_83 : BnFor rows (81, 2, []) := by
  intro r hr K f fd F ar har
  obtain rfl : row_81 = r := Option.some.inj (show some row_81 = some r from hr)
  have e : arOf row_81.dfl 2 [] 0 row_81.ps = some [.a 0, .a 1] := by kernel_rfl
  obtain rfl := Option.some.inj (e.symm.trans har)
  exact bn_A F 2 [] _ [(true, 0), (true, 1)] (.a <| .a <| .nil) (fun kV doc pm an cdv ct us ws h1 h2 => match us, ws, h1, h2 with | [_, _], [], _, _ => by kernel_rfl)
theorem bn_84 : BnFor rows (82, 2, []) := by
  intro r hr K f fd F ar har
  obtain rfl : row_82 = r := Option.some.inj (show some row_82 = some r from hr)
  have e : arOf row_82.dfl 2 [] 0 row_82.ps = some [.a 0, .a 1] := by kernel_rfl
  obtain rfl := Option.some.inj (e.symm.trans har)
  exact bn_A F 2 [] _ [(true, 0), (true, 1)] (.a <| .a <| .nil) (fun kV doc pm an cdv ct us ws h1 h2 => match us, ws, h1, h2 with | [_, _], [], _, _ => by kernel_rfl)
theorem bn_85 : BnFor rows (83, 3, []) := by
  intro r hr K f fd F ar har
  obtain rfl : row_83 = r := Option.some.inj (show some row_83 = some r from hr)
  have e : arOf row_83.dfl 3 [] 0 row_83.ps = some [.a 0, .a 1, .a 2] := by kernel_rfl
  obtain rfl := Option.some.inj (e.symm.trans har)
  exact bn_A F 3 [] _ [(true, 0), (true, 1), (true, 2)] (.a <| .a <| .a <| .nil) (fun kV doc pm an cdv ct us ws h1 h2 => match us, ws, h1, h2 with | [_, _, _], [], _, _ => by kernel_rfl)
theorem bn_86 : BnFor rows (84, 2, []) := by
  intro r hr K f fd F ar har
  obtain rfl : row_84 = r := Option.some.inj (show some row_84 = some r from hr)
  have e : arOf row_84.dfl 2 [] 0 row_84.ps = some [.a 0, .a 1] := by kernel_rfl
  obtain rfl := Option.some.inj (e.symm.trans har)
  exact bn_A F 2 [] _ [(true, 0), (true, 1)] (.a <| .a <| .nil) (fun kV doc pm an cdv ct us ws h1 h2 => match us, ws, h1, h2 with | [_, _], [], _, _ => by kernel_rfl)
theorem bn_87 : BnFor rows (85, 3, []) := by
  intro r hr K f fd F ar har
  obtain rfl : row_85 = r := Option.some.inj (show some row_85 = some r from hr)
  have e : arOf row_85.dfl 3 [] 0 row_85.ps = some [.a 0, .a 1, .a 2] := by kernel_rfl
  obtain rfl := Option.some.inj (e.symm.trans har)
  exact bn_A F 3 [] _ [(true, 0), (true, 1), (true, 2)] (.a <| .a <| .a <| .nil) (fun kV doc pm an cdv ct us ws h1 h2 => match us, ws, h1, h2 with | [_, _, _], [], _, _ => by kernel_rfl)
theorem bn_88 : BnFor rows (86, 2, []) := by
  intro r hr K f fd F ar har
  obtain rfl : row_86 = r := Option.some.inj (show some row_86 = some r from hr)
  have e : arOf row_86.dfl 2 [] 0 row_86.ps = some [.a 0, .a 1] := by kernel_rfl
  obtain rfl := Option.some.inj (e.symm.trans har)
  exact bn_A F 2 [] _ [(true, 0), (true, 1)] (.a <| .a <| .nil) (fun kV doc pm an cdv ct us ws h1 h2 => match us, ws, h1, h2 with | [_, _], [], _, _ => by kernel_rfl)
theorem bn_89 : BnFor rows (87, 4, []) := by
  intro r hr K f fd F ar har
  obtain rfl : row_87 = r := Option.some.inj (show some row_87 = some r from hr)
  have e : arOf row_87.dfl 4 [] 0 row_87.ps = some [.a 0, .a 1, .a 2, .a 3] := by kernel_rfl
  obtain rfl := Option.some.inj (e.symm.trans har)
  exact bn_A F 4 [] _ [(true, 0), (true, 1), (true, 2), (true, 3)] (.a <| .a <| .a <| .a <| .nil) (fun kV doc pm an cdv ct us ws h1 h2 => match us, ws, h1, h2 with | [_, _, _, _], [], _, _ => by kernel_rfl)
theorem bn_90 : BnFor rows (88, 4, []) := by
  intro r hr K f fd F ar har
  obtain rfl : row_88 = r := Option.some.inj (show some row_88 = some r from hr)
  have e : arOf row_88.dfl 4 [] 0 row_88.ps = some [.a 0, .a 1, .a 2, .a 3] := by kernel_rfl
  obtain rfl := Option.some.inj (e.symm.trans har)
  exact bn_A F 4 [] _ [(true, 0), (true, 1), (true, 2), (true, 3)] (.a <| .a <| .a <| .a <| .nil) (fun kV doc pm an cdv ct us ws h1 h2 => match us, ws, h1, h2 with | [_, _, _, _], [], _, _ => by kernel_rfl)
theorem bn_91 : BnFor rows (89, 3, []) := by
  intro r hr K f fd F ar har
  obtain rfl : row_89 = r := Option.some.inj (show some row_89 = some r from hr)
  have e : arOf row_89.dfl 3 [] 0 row_89.ps = some [.a 0, .a 1, .a 2] := by kernel_rfl
  obtain rfl := Option.some.inj (e.symm.trans har)
  exact bn_A F 3 [] _ [(true, 0), (true, 1), (true, 2)] (.a <| .a <| .a <| .nil) (fun kV doc pm an cdv ct us ws h1 h2 => match us, ws, h1, h2 with | [_, _, _], [], _, _ => by kernel_rfl)
theorem bn_92 : BnFor rows (90, 3, []) := by
  intro r hr K f fd F ar har
  obtain rfl : row_90 = r := Option.some.inj (show some row_90 = some r from hr)
  have e : arOf row_90.dfl 3 [] 0 row_90.ps = some [.a 0, .a 1, .a 2] := by kernel_rfl
  obtain rfl := Option.some.inj (e.symm.trans har)
  exact bn_A F 3 [] _ [(true, 0), (true, 1), (true, 2)] (.a <| .a <| .a <| .nil) (fun kV doc pm an cdv ct us ws h1 h2 => match us, ws, h1, h2 with | [_, _, _], [], _, _ => by kernel_rfl)
theorem bn_93 : BnFor rows (91, 2, []) := by
  intro r hr K f fd F ar har
  obtain rfl : row_91 = r := Option.some.inj (show some row_91 = some r from hr)
  have e : arOf row_91.dfl 2 [] 0 row_91.ps = some [.a 0, .a 1] := by kernel_rfl
  obtain rfl := Option.some.inj (e.symm.trans har)
  exact bn_A F 2 [] _ [(true, 0), (true, 1)] (.a <| .a <| .nil) (fun kV doc pm an cdv ct us ws h1 h2 => match us, ws, h1, h2 with | [_, _], [], _, _ => by kernel_rfl)
theorem bn_94 : BnFor rows (92, 3, []) := by
  intro r hr K f fd F ar har
  obtain rfl : row_92 = r := Option.some.inj (show some row_92 = some r from hr)
  have e : arOf row_92.dfl 3 [] 0 row_92.ps = some [.a 0, .a 1, .a 2] := by kernel_rfl
  obtain rfl := Option.some.inj (e.symm.trans har)
  exact bn_A F 3 [] _ [(true, 0), (true, 1), (true, 2)] (.a <| .a <| .a <| .nil) (fun kV doc pm an cdv ct us ws h1 h2 => match us, ws, h1, h2 with | [_, _, _], [], _, _ => by kernel_rfl)
theorem bn_95 : BnFor rows (93, 4, []) := by
  intro r hr K f fd F ar har
  obtain rfl : row_93 = r := Option.some.inj (show some row_93 = some r from hr)
  have e : arOf row_93.dfl 4 [] 0 row_93.ps = some [.a 0, .a 1, .a 2, .a 3] := by kernel_rfl
  obtain rfl := Option.some.inj (e.symm.trans har)
  exact bn_A F 4 [] _ [(true, 0), (true, 1), (true, 2), (true, 3)] (.a <| .a <| .a <| .a <| .nil) (fun kV doc pm an cdv ct us ws h1 h2 => match us, ws, h1, h2 with | [_, _, _, _], [], _, _ => by kernel_rfl)
theorem bn_96 : BnFor rows (94, 4, []) := by
  intro r hr K f fd F ar har
  obtain rfl : row_94 = r := Option.some.inj (show some row_94 = some r from hr)
  have e : arOf row_94.dfl 4 [] 0 row_94.ps = some [.a 0, .a 1, .a 2, .a 3] := by kernel_rfl
  obtain rfl := Option.some.inj (e.symm.trans har)
  exact bn_A F 4 [] _ [(true, 0), (true, 1), (true, 2), (true, 3)] (.a <| .a <| .a <| .a <| .nil) (fun kV doc pm an cdv ct us ws h1 h2 => match us, ws, h1, h2 with | [_, _, _, _], [], _, _ => by kernel_rfl)
theorem bn_97 : BnFor rows (95, 3, []) := by
  intro r hr K f fd F ar har
  obtain rfl : row_95 = r := Option.some.inj (show some row_95 = some r from hr)
  have e : arOf row_95.dfl 3 [] 0 row_95.ps = some [.a 0, .a 1, .a 2] := by kernel_rfl
  obtain rfl := Option.some.inj (e.symm.trans har)
  exact bn_A F 3 [] _ [(true, 0), (true, 1), (true, 2)] (.a <| .a <| .a <| .nil) (fun kV doc pm an cdv ct us ws h1 h2 => match us, ws, h1, h2 with | [_, _, _], [], _, _ => by kernel_rfl)
theorem bn_98 : BnFor rows (96, 3, []) := by
  intro r hr K f fd F ar har
  obtain rfl : row_96 = r := Option.some.inj (show some row_96 = some r from hr)
  have e : arOf row_96.dfl 3 [] 0 row_96.ps = some [.a 0, .a 1, .a 2] := by kernel_rfl
  obtain rfl := Option.some.inj (e.symm.trans har)
  exact bn_A F 3 [] _ [(true, 0), (true, 1), (true, 2)] (.a <| .a <| .a <| .nil) (fun kV doc pm an cdv ct us ws h1 h2 => match us, ws, h1, h2 with | [_, _, _], [], _, _ => by kernel_rfl)
theorem bn_99 : BnFor rows (97, 3, []) := by
  intro r hr K f fd F ar har
  obtain rfl : row_97 = r := Option.some.inj (show some row_97 = some r from hr)
  have e : arOf row_97.dfl 3 [] 0 row_97.ps = some [.a 0, .a 1, .a 2] := by kernel_rfl
  obtain rfl := Option.some.inj (e.symm.trans har)
  exact bn_A F 3 [] _ [(true, 0), (true, 1), (true, 2)] (.a <| .a <| .a <| .nil) (fun kV doc pm an cdv ct us ws h1 h2 => match us, ws, h1, h2 with | [_, _, _], [], _, _ => by kernel_rfl)
theorem bn_100 : BnFor rows (98, 4, []) := by
  intro r hr K f fd F ar har
  obtain rfl : row_98 = r := Option.some.inj (show some row_98 = some r from hr)
  have e : arOf row_98.dfl 4 [] 0 row_98.ps = some [.a 0, .a 1, .a 2, .a 3] := by kernel_rfl
  obtain rfl := Option.some.inj (e.symm.trans har)
  exact bn_A F 4 [] _ [(true, 0), (true, 1), (true, 2), (true, 3)] (.a <| .a <| .a <| .a <| .nil) (fun kV doc pm an cdv ct us ws h1 h2 => match us, ws, h1, h2 with | [_, _, _, _], [], _, _ => by kernel_rfl)
theorem bn_101 : BnFor rows (99, 4, []) := by
  intro r hr K f fd F ar har
  obtain rfl : row_99 = r := Option.some.inj (show some row_99 = some r from hr)
  have e : arOf row_99.dfl 4 [] 0 row_99.ps = some [.a 0, .a 1, .a 2, .a 3] := by kernel_rfl
  obtain rfl := Option.some.inj (e.symm.trans har)
  exact bn_A F 4 [] _ [(true, 0), (true, 1), (true, 2), (true, 3)] (.a <| .a <| .a <| .a <| .nil) (fun kV doc pm an cdv ct us ws h1 h2 => match us, ws, h1, h2 with | [_, _, _, _], [], _, _ => by kernel_rfl)
theorem bn_102 : BnFor rows (100, 2, []) := by
  intro r hr K f fd F ar har
  obtain rfl : row_100 = r := Option.some.inj (show some row_100 = some r from hr)
  have e : arOf row_100.dfl 2 [] 0 row_100.ps = some [.a 0, .a 1] := by kernel_rfl
  obtain rfl := Option.some.inj (e.symm.trans har)
  exact bn_A F 2 [] _ [(true, 0), (true, 1)] (.a <| .a <| .nil) (fun kV doc pm an cdv ct us ws h1 h2 => match us, ws, h1, h2 with | [_, _], [], _, _ => by kernel_rfl)
theorem bn_103 : BnFor rows (101, 4, []) := by
  intro r hr K f fd F ar har
  obtain rfl : row_101 = r := Option.some.inj (show some row_101 = some r from hr)
  have e : arOf row_101.dfl 4 [] 0 row_101.ps = some [.a 0, .a 1, .a 2, .a 3] := by kernel_rfl
  obtain rfl := Option.some.inj (e.symm.trans har)
  exact bn_A F 4 [] _ [(true, 0), (true, 1), (true, 2), (true, 3)] (.a <| .a <| .a <| .a <| .nil) (fun kV doc pm an cdv ct us ws h1 h2 => match us, ws, h1, h2 with | [_, _, _, _], [], _, _ => by kernel_rfl)
theorem bn_104 : BnFor rows (102, 2, []) := by
  intro r hr K f fd F ar har
  obtain rfl : row_102 = r := Option.some.inj (show some row_102 = some r from hr)
  have e : arOf row_102.dfl 2 [] 0 row_102.ps = some [.a 0, .a 1] := by kernel_rfl
  obtain rfl := Option.some.inj (e.symm.trans har)
  exact bn_A F 2 [] _ [(true, 0), (true, 1)] (.a <| .a <| .nil) (fun kV doc pm an cdv ct us ws h1 h2 => match us, ws, h1, h2 with | [_, _], [], _, _ => by kernel_rfl)
theorem bn_105 : BnFor rows (103, 2, []) := by
  intro r hr K f fd F ar har
  obtain rfl : row_103 = r := Option.some.inj (show some row_103 = some r from hr)
  have e : arOf row_103.dfl 2 [] 0 row_103.ps = some [.a 0, .a 1] := by kernel_rfl
  obtain rfl := Option.some.inj (e.symm.trans har)
  exact bn_A F 2 [] _ [(true, 0), (true, 1)] (.a <| .a <| .nil) (fun kV doc pm an cdv ct us ws h1 h2 => match us, ws, h1, h2 with | [_, _], [], _, _ => by kernel_rfl)
theorem bn_106 : BnFor rows (104, 4, []) := by
  intro r hr K f fd F ar har
  obtain rfl : row_104 = r := Option.some.inj (show some row_104 = some r from hr)
  have e : arOf row_104.dfl 4 [] 0 row_104.ps = some [.a 0, .a 1, .a 2, .a 3] := by kernel_rfl
  obtain rfl := Option.some.inj (e.symm.trans har)
  exact bn_A F 4 [] _ [(true, 0), (true, 1), (true, 2), (true, 3)] (.a <| .a <| .a <| .a <| .nil) (fun kV doc pm an cdv ct us ws h1 h2 => match us, ws, h1, h2 with | [_, _, _, _], [], _, _ => by kernel_rfl)
theorem bn_107 : BnFor rows (105, 3, []) := by
  intro r hr K f fd F ar har
  obtain rfl : row_105 = r := Option.some.inj (show some row_105 = some r from hr)
  have e : arOf row_105.dfl 3 [] 0 row_105.ps = some [.a 0, .a 1, .a 2] := by kernel_rfl
  obtain rfl := Option.some.inj (e.symm.trans har)
  exact bn_A F 3 [] _ [(true, 0), (true, 1), (true, 2)] (.a <| .a <| .a <| .nil) (fun kV doc pm an cdv ct us ws h1 h2 => match us, ws, h1, h2 with | [_, _, _], [], _, _ => by kernel_rfl)
theorem bn_108 : BnFor rows (106, 3, []) := by
  intro r hr K f fd F ar har
  obtain rfl : row_106 = r := Option.some.inj (show some row_106 = some r from hr)
  have e : arOf row_106.dfl 3 [] 0 row_106.ps = some [.a 0, .a 1, .a 2] := by kernel_rfl
  obtain rfl := Option.some.inj (e.symm.trans har)
  exact bn_A F 3 [] _ [(true, 0), (true, 1), (true, 2)] (.a <| .a <| .a <| .nil) (fun kV doc pm an cdv ct us ws h1 h2 => match us, ws, h1, h2 with | [_, _, _], [], _, _ => by kernel_rfl)
theorem bn_109 : BnFor rows (107, 2, []) := by
  intro r hr K f fd F ar har
  obtain rfl : row_107 = r := Option.some.inj (show some row_107 = some r from hr)
  have e : arOf row_107.dfl 2 [] 0 row_107.ps = some [.a 0, .a 1] := by kernel_rfl
  obtain rfl := Option.some.inj (e.symm.trans har)
  exact bn_A F 2 [] _ [(true, 0), (true, 1)] (.a <| .a <| .nil) (fun kV doc pm an cdv ct us ws h1 h2 => match us, ws, h1, h2 with | [_, _], [], _, _ => by kernel_rfl)
theorem bn_110 : BnFor rows (108, 3, []) := by
  intro r hr K f fd F ar har
  obtain rfl : row_108 = r := Option.some.inj (show some row_108 = some r from hr)
  have e : arOf row_108.dfl 3 [] 0 row_108.ps = some [.a 0, .a 1, .a 2] := by kernel_rfl
  obtain rfl := Option.some.inj (e.symm.trans har)
  exact bn_A F 3 [] _ [(true, 0), (true, 1), (true, 2)] (.a <| .a <| .a <| .nil) (fun kV doc pm an cdv ct us ws h1 h2 => match us, ws, h1, h2 with | [_, _, _], [], _, _ => by kernel_rfl)
theorem bn_111 : BnFor rows (109, 5, []) := by
  intro r hr K f fd F ar har
  obtain rfl : row_109 = r := Option.some.inj (show some row_109 = some r from hr)
  have e : arOf row_109.dfl 5 [] 0 row_109.ps = some [.a 0, .a 1, .a 2, .a 3, .a 4] := by kernel_rfl
  obtain rfl := Option.some.inj (e.symm.trans har)
  exact bn_A F 5 [] _ [(true, 0), (true, 1), (true, 2), (true, 3), (true, 4)] (.a <| .a <| .a <| .a <| .a <| .nil) (fun kV doc pm an cdv ct us ws h1 h2 => match us, ws, h1, h2 with | [_, _, _, _, _], [], _, _ => by kernel_rfl)
theorem bn_112 : BnFor rows (110, 5, []) := by
  intro r hr K f fd F ar har
  obtain rfl : row_110 = r := Option.some.inj (show some row_110 = some r from hr)
  have e : arOf row_110.dfl 5 [] 0 row_110.ps = some [.a 0, .a 1, .a 2, .a 3, .a 4] := by kernel_rfl
  obtain rfl := Option.some.inj (e.symm.trans har)
  exact bn_A F 5 [] _ [(true, 0), (true, 1), (true, 2), (true, 3), (true, 4)] (.a <| .a <| .a <| .a <| .a <| .nil) (fun kV doc pm an cdv ct us ws h1 h2 => match us, ws, h1, h2 with | [_, _, _, _, _], [], _, _ => by kernel_rfl)
theorem bn_113 : BnFor rows (111, 5, []) := by
  intro r hr K f fd F ar har
  obtain rfl : row_111 = r := Option.some.inj (show some row_111 = some r from hr)
  have e : arOf row_111.dfl 5 [] 0 row_111.ps = some [.a 0, .a 1, .a 2, .a 3, .a 4] := by kernel_rfl
  obtain rfl := Option.some.inj (e.symm.trans har)
  exact bn_A F 5 [] _ [(true, 0), (true, 1), (true, 2), (true, 3), (true, 4)] (.a <| .a <| .a <| .a <| .a <| .nil) (fun kV doc pm an cdv ct us ws h1 h2 => match us, ws, h1, h2 with | [_, _, _, _, _], [], _, _ => by kernel_rfl)
theorem bn_114 : BnFor rows (112, 3, []) := by
  intro r hr K f fd F ar har
  obtain rfl : row_112 = r := Option.some.inj (show some row_112 = some r from hr)
  have e : arOf row_112.dfl 3 [] 0 row_112.ps = some [.a 0, .a 1, .a 2] := by kernel_rfl
  obtain rfl := Option.some.inj (e.symm.trans har)
  exact bn_A F 3 [] _ [(true, 0), (true, 1), (true, 2)] (.a <| .a <| .a <| .nil) (fun kV doc pm an cdv ct us ws h1 h2 => match us, ws, h1, h2 with | [_, _, _], [], _, _ => by kernel_rfl)
theorem bn_115 : BnFor rows (113, 3, []) := by
  intro r hr K f fd F ar har
  obtain rfl : row_113 = r := Option.some.inj (show some row_113 = some r from hr)
  have e : arOf row_113.dfl 3 [] 0 row_113.ps = some [.a 0, .a 1, .a 2] := by kernel_rfl
  obtain rfl := Option.some.inj (e.symm.trans har)
  exact bn_A F 3 [] _ [(true, 0), (true, 1), (true, 2)] (.a <| .a <| .a <| .nil) (fun kV doc pm an cdv ct us ws h1 h2 => match us, ws, h1, h2 with | [_, _, _], [], _, _ => by kernel_rfl)
theorem bn_116 : BnFor rows (114, 3, []) := by
  intro r hr K f fd F ar har
  obtain rfl : row_114 = r := Option.some.inj (show some row_114 = some r from hr)
  have e : arOf row_114.dfl 3 [] 0 row_114.ps = some [.a 0, .a 1, .a 2] := by kernel_rfl
  obtain rfl := Option.some.inj (e.symm.trans har)
  exact bn_A F 3 [] _ [(true, 0), (true, 1), (true, 2)] (.a <| .a <| .a <| .nil) (fun kV doc pm an cdv ct us ws h1 h2 => match us, ws, h1, h2 with | [_, _, _], [], _, _ => by kernel_rfl)
theorem bn_117 : BnFor rows (115, 4, []) := by
  intro r hr K f fd F ar har
  obtain rfl : row_115 = r := Option.some.inj (show some row_115 = some r from hr)
  have e : arOf row_115.dfl 4 [] 0 row_115.ps = some [.a 0, .a 1, .a 2, .a 3] := by kernel_rfl
  obtain rfl := Option.some.inj (e.symm.trans har)
  exact bn_A F 4 [] _ [(true, 0), (true, 1), (true, 2), (true, 3)] (.a <| .a <| .a <| .a <| .nil) (fun kV doc pm an cdv ct us ws h1 h2 => match us, ws, h1, h2 with | [_, _, _, _], [], _, _ => by kernel_rfl)
theorem bn_118 : BnFor rows (116, 4, []) := by
  intro r hr K f fd F ar har
  obtain rfl : row_116 = r := Option.some.inj (show some row_116 = some r from hr)
  have e : arOf row_116.dfl 4 [] 0 row_116.ps = some [.a 0, .a 1, .a 2, .a 3] := by kernel_rfl
  obtain rfl := Option.some.inj (e.symm.trans har)
  exact bn_A F 4 [] _ [(true, 0), (true, 1), (true, 2), (true, 3)] (.a <| .a <| .a <| .a <| .nil) (fun kV doc pm an cdv ct us ws h1 h2 => match us, ws, h1, h2 with | [_, _, _, _], [], _, _ => by kernel_rfl)
theorem bn_119 : BnFor rows (117, 3, []) := by
  intro r hr K f fd F ar har
  obtain rfl : row_117 = r := Option.some.inj (show some row_117 = some r from hr)
  have e : arOf row_117.dfl 3 [] 0 row_117.ps = some [.a 0, .a 1, .a 2] := by kernel_rfl
  obtain rfl := Option.some.inj (e.symm.trans har)
  exact bn_A F 3 [] _ [(true, 0), (true, 1), (true, 2)] (.a <| .a <| .a <| .nil) (fun kV doc pm an cdv ct us ws h1 h2 => match us, ws, h1, h2 with | [_, _, _], [], _, _ => by kernel_rfl)
theorem bn_120 : BnFor rows (118, 4, []) := by
  intro r hr K f fd F ar har
  obtain rfl : row_118 = r := Option.some.inj (show some row_118 = some r from hr)
  have e : arOf row_118.dfl 4 [] 0 row_118.ps = some [.a 0, .a 1, .a 2, .a 3] := by kernel_rfl
  obtain rfl := Option.some.inj (e.symm.trans har)
  exact bn_A F 4 [] _ [(true, 0), (true, 1), (true, 2), (true, 3)] (.a <| .a <| .a <| .a <| .nil) (fun kV doc pm an cdv ct us ws h1 h2 => match us, ws, h1, h2 with | [_, _, _, _], [], _, _ => by kernel_rfl)
theorem bn_121 : BnFor rows (119, 2, []) := by
  intro r hr K f fd F ar har
  obtain rfl : row_119 = r := Option.some.inj (show some row_119 = some r from hr)
  have e : arOf row_119.dfl 2 [] 0 row_119.ps = some [.a 0, .a 1] := by kernel_rfl
  obtain rfl := Option.some.inj (e.symm.trans har)
  exact bn_A F 2 [] _ [(true, 0), (true, 1)] (.a <| .a <| .nil) (fun kV doc pm an cdv ct us ws h1 h2 => match us, ws, h1, h2 with | [_, _], [], _, _ => by kernel_rfl)
theorem bn_122 : BnFor rows (120, 0, []) := by
  intro r hr K f fd F ar har
  obtain rfl : row_120 = r := Option.some.inj (show some row_120 = some r from hr)
  have e : arOf row_120.dfl 0 [] 0 row_120.ps = some [] := by kernel_rfl
  obtain rfl := Option.some.inj (e.symm.trans har)
  exact bn_A F 0 [] _ [] (.nil) (fun kV doc pm an cdv ct us ws h1 h2 => match us, ws, h1, h2 with | [], [], _, _ => by kernel_rfl)
theorem bn_123 : BnFor rows (121, 1, []) := by
  intro r hr K f fd F ar har
  obtain rfl : row_121 = r := Option.some.inj (show some row_121 = some r from hr)
  have e : arOf row_121.dfl 1 [] 0 row_121.ps = some [.a 0] := by kernel_rfl
  obtain rfl := Option.some.inj (e.symm.trans har)
  exact bn_A F 1 [] _ [(true, 0)] (.a <| .nil) (fun kV doc pm an cdv ct us ws h1 h2 => match us, ws, h1, h2 with | [_], [], _, _ => by kernel_rfl)
theorem bn_124 : BnFor rows (122, 6, []) := by
  intro r hr K f fd F ar har
  obtain rfl : row_122 = r := Option.some.inj (show some row_122 = some r from hr)
  have e : arOf row_122.dfl 6 [] 0 row_122.ps = some [.a 0, .a 1, .a 2, .a 3, .a 4, .a 5] := by kernel_rfl
  obtain rfl := Option.some.inj (e.symm.trans har)
  exact bn_A F 6 [] _ [(true, 0), (true, 1), (true, 2), (true, 3), (true, 4), (true, 5)] (.a <| .a <| .a <| .a <| .a <| .a <| .nil) (fun kV doc pm an cdv ct us ws h1 h2 => match us, ws, h1, h2 with | [_, _, _, _, _, _], [], _, _ => by kernel_rfl)
theorem bn_125 : BnFor rows (123, 0, []) := by
  intro r hr K f fd F ar har
  obtain rfl : row_123 = r := Option.some.inj (show some row_123 = some r from hr)
  have e : arOf row_123.dfl 0 [] 0 row_123.ps = some [] := by kernel_rfl
  obtain rfl := Option.some.inj (e.symm.trans har)
  exact bn_A F 0 [] _ [] (.nil) (fun kV doc pm an cdv ct us ws h1 h2 => match us, ws, h1, h2 with | [], [], _, _ => by kernel_rfl)
theorem bn_126 : BnFor rows (124, 1, []) := by
  intro r hr K f fd F ar har
  obtain rfl : row_124 = r := Option.some.inj (show some row_124 = some r from hr)
  have e : arOf row_124.dfl 1 [] 0 row_124.ps = some [.a 0] := by kernel_rfl
  obtain rfl := Option.some.inj (e.symm.trans har)
  exact bn_A F 1 [] _ [(true, 0)] (.a <| .nil) (fun kV doc pm an cdv ct us ws h1 h2 => match us, ws, h1, h2 with | [_], [], _, _ => by kernel_rfl)
theorem bns : ∀ q ∈ gi.cmb, BnFor rows q := by
  intro q hq
  have hq : q ∈ ([(0, 2, ([] : List Str)), (1, 2, ([] : List Str)), (2, 2, ([] : List Str)), (3, 3, ([] : List Str)), (4, 2, ([] : List Str)), (5, 2, ([] : List Str)), (5, 2, (["age"] : List Str)), (6, 4, ([] : List Str)), (6, 4, (["age"] : List Str)), (7, 1, ([] : List Str)), (8, 1, ([] : List Str)), (9, 1, ([] : List Str)), (10, 1, ([] : List Str)), (11, 1, ([] : List Str)), (12, 2, ([] : List Str)), (13, 4, ([] : List Str)), (14, 6, ([] : List Str)), (15, 5, ([] : List Str)), (16, 2, ([] : List Str)), (17, 6, ([] : List Str)), (18, 1, ([] : List Str)), (19, 1, ([] : List Str)), (20, 2, ([] : List Str)), (21, 3, ([] : List Str)), (22, 2, ([] : List Str)), (23, 2, ([] : List Str)), (24, 1, ([] : List Str)), (25, 2, ([] : List Str)), (26, 2, ([] : List Str)), (27, 2, ([] : List Str)), (28, 2, ([] : List Str)), (29, 2, ([] : List Str)), (30, 1, ([] : List Str)), (31, 1, ([] : List Str)), (32, 4, ([] : List Str)), (33, 2, ([] : List Str)), (34, 3, ([] : List Str)), (35, 3, ([] : List Str)), (36, 3, ([] : List Str)), (37, 2, ([] : List Str)), (38, 1, ([] : List Str)), (39, 2, ([] : List Str)), (40, 5, ([] : List Str)), (41, 3, ([] : List Str)), (42, 2, ([] : List Str)), (43, 2, ([] : List Str)), (44, 2, ([] : List Str)), (45, 2, ([] : List Str)), (46, 2, ([] : List Str)), (47, 3, ([] : List Str)), (48, 2, ([] : List Str)), (49, 2, ([] : List Str)), (50, 2, ([] : List Str)), (51, 4, ([] : List Str)), (52, 2, ([] : List Str)), (53, 2, ([] : List Str)), (54, 1, ([] : List Str)), (55, 4, ([] : List Str)), (56, 6, ([] : List Str)), (57, 5, ([] : List Str)), (58, 3, (["is_harmless"] : List Str)), (59, 3, ([] : List Str)), (60, 2, ([] : List Str)), (61, 2, ([] : List Str)), (62, 2, ([] : List Str)), (63, 1, ([] : List Str)), (64, 3, ([] : List Str)), (65, 6, ([] : List Str)), (66, 3, ([] : List Str)), (67, 3, ([] : List Str)), (68, 4, ([] : List Str)), (69, 3, ([] : List Str)), (70, 6, ([] : List Str)), (71, 3, ([] : List Str)), (72, 2, ([] : List Str)), (73, 2, ([] : List Str)), (74, 2, ([] : List Str)), (75, 2, ([] : List Str)), (76, 2, ([] : List Str)), (77, 3, ([] : List Str)), (78, 4, ([] : List Str)), (79, 3, ([] : List Str)), (80, 2, ([] : List Str)), (81, 2, ([] : List Str)), (82, 2, ([] : List Str)), (83, 3, ([] : List Str)), (84, 2, ([] : List Str)), (85, 3, ([] : List Str)), (86, 2, ([] : List Str)), (87, 4, ([] : List Str)), (88, 4, ([] : List Str)), (89, 3, ([] : List Str)), (90, 3, ([] : List Str)), (91, 2, ([] : List Str)), (92, 3, ([] : List Str)), (93, 4, ([] : List Str)), (94, 4, ([] : List Str)), (95, 3, ([] : List Str)), (96, 3, ([] : List Str)), (97, 3, ([] : List Str)), (98, 4, ([] : List Str)), (99, 4, ([] : List Str)), (100, 2, ([] : List Str)), (101, 4, ([] : List Str)), (102, 2, ([] : List Str)), (103, 2, ([] : List Str)), (104, 4, ([] : List Str)), (105, 3, ([] : List Str)), (106, 3, ([] : List Str)), (107, 2, ([] : List Str)), (108, 3, ([] : List Str)), (109, 5, ([] : List Str)), (110, 5, ([] : List Str)), (111, 5, ([] : List Str)), (112, 3, ([] : List Str)), (113, 3, ([] : List Str)), (114, 3, ([] : List Str)), (115, 4, ([] : List Str)), (116, 4, ([] : List Str)), (117, 3, ([] : List Str)), (118, 4, ([] : List Str)), (119, 2, ([] : List Str)), (120, 0, ([] : List Str)), (121, 1, ([] : List Str)), (122, 6, ([] : List Str)), (123, 0, ([] : List Str)), (124, 1, ([] : List Str))] : List (Nat × Nat × List Str)) := hq
  rcases List.mem_cons.mp hq with e | hq
  · rw [e]; exact bn_0
  rcases List.mem_cons.mp hq with e | hq
  · rw [e]; exact bn_1
  rcases List.mem_cons.mp hq with e | hq
  · rw [e]; exact bn_2
  rcases List.mem_cons.mp hq with e | hq
  · rw [e]; exact bn_3
  rcases List.mem_cons.mp hq with e | hq
  · rw [e]; exact bn_4
  rcases List.mem_cons.mp hq with e | hq
  · rw [e]; exact bn_5
  rcases List.mem_cons.mp hq with e | hq
  · rw [e]; exact bn_6
  rcases List.mem_cons.mp hq with e | hq
  · rw [e]; exact bn_7
  rcases List.mem_cons.mp hq with e | hq
  · rw [e]; exact bn_8
  rcases List.mem_cons.mp hq with e | hq
  · rw [e]; exact bn_9
  rcases List.mem_cons.mp hq with e | hq
  · rw [e]; exact bn_10
  rcases List.mem_cons.mp hq with e | hq
  · rw [e]; exact bn_11
  rcases List.mem_cons.mp hq with e | hq
  · rw [e]; exact bn_12
  rcases List.mem_cons.mp hq with e | hq
  · rw [e]; exact bn_13
  rcases List.mem_cons.mp hq with e | hq
  · rw [e]; exact bn_14
  rcases List.mem_cons.mp hq with e | hq
  · rw [e]; exact bn_15
  rcases List.mem_cons.mp hq with e | hq
  · rw [e]; exact bn_16
  rcases List.mem_cons.mp hq with e | hq
  · rw [e]; exact bn_17
  rcases List.mem_cons.mp hq with e | hq
  · rw [e]; exact bn_18
  rcases List.mem_cons.mp hq with e | hq
  · rw [e]; exact bn_19
  rcases List.mem_cons.mp hq with e | hq
  · rw [e]; exact bn_20
  rcases List.mem_cons.mp hq with e | hq
  · rw [e]; exact bn_21
  rcases List.mem_cons.mp hq with e | hq
  · rw [e]; exact bn_22
  rcases List.mem_cons.mp hq with e | hq
  · rw [e]; exact bn_23
  rcases List.mem_cons.mp hq with e | hq
  · rw [e]; exact bn_24
  rcases List.mem_cons.mp hq with e | hq
  · rw [e]; exact bn_25
  rcases List.mem_cons.mp hq with e | hq
  · rw [e]; exact bn_26
  rcases List.mem_cons.mp hq with e | hq
  · rw [e]; exact bn_27
  rcases List.mem_cons.mp hq with e | hq
  · rw [e]; exact bn_28
  rcases List.mem_cons.mp hq with e | hq
  · rw [e]; exact bn_29
  rcases List.mem_cons.mp hq with e | hq
  · rw [e]; exact bn_30
  rcases List.mem_cons.mp hq with e | hq
  · rw [e]; exact bn_31
  rcases List.mem_cons.mp hq with e | hq
  · rw [e]; exact bn_32
  rcases List.mem_cons.mp hq with e | hq
  · rw [e]; exact bn_33
  rcases List.mem_cons.mp hq with e | hq
  · rw [e]; exact bn_34
  rcases List.mem_cons.mp hq with e | hq
  · rw [e]; exact bn_35
  rcases List.mem_cons.mp hq with e | hq
  · rw [e]; exact bn_36
  rcases List.mem_cons.mp hq with e | hq
  · rw [e]; exact bn_37
  rcases List.mem_cons.mp hq with e | hq
  · rw [e]; exact bn_38
  rcases List.mem_cons.mp hq with e | hq
  · rw [e]; exact bn_39
  rcases List.mem_cons.mp hq with e | hq
  · rw [e]; exact bn_40
  rcases List.mem_cons.mp hq with e | hq
  · rw [e]; exact bn_41
  rcases List.mem_cons.mp hq with e | hq
  · rw [e]; exact bn_42
  rcases List.mem_cons.mp hq with e | hq
  · rw [e]; exact bn_43
  rcases List.mem_cons.mp hq with e | hq
  · rw [e]; exact bn_44
  rcases List.mem_cons.mp hq with e | hq
  · rw [e]; exact bn_45
  rcases List.mem_cons.mp hq with e | hq
  · rw [e]; exact bn_46
  rcases List.mem_cons.mp hq with e | hq
  · rw [e]; exact bn_47
  rcases List.mem_cons.mp hq with e | hq
  · rw [e]; exact bn_48
  rcases List.mem_cons.mp hq with e | hq
  · rw [e]; exact bn_49
  rcases List.mem_cons.mp hq with e | hq
  · rw [e]; exact bn_50
  rcases List.mem_cons.mp hq with e | hq
  · rw [e]; exact bn_51
  rcases List.mem_cons.mp hq with e | hq
  · rw [e]; exact bn_52
  rcases List.mem_cons.mp hq with e | hq
  · rw [e]; exact bn_53
  rcases List.mem_cons.mp hq with e | hq
  · rw [e]; exact bn_54
  rcases List.mem_cons.mp hq with e | hq
  · rw [e]; exact bn_55
  rcases List.mem_cons.mp hq with e | hq
  · rw [e]; exact bn_56
  rcases List.mem_cons.mp hq with e | hq
  · rw [e]; exact bn_57
  rcases List.mem_cons.mp hq with e | hq
  · rw [e]; exact bn_58
  rcases List.mem_cons.mp hq with e | hq
  · rw [e]; exact bn_59
  rcases List.mem_cons.mp hq with e | hq
  · rw [e]; exact bn_60
  rcases List.mem_cons.mp hq with e | hq
  · rw [e]; exact bn_61
  rcases List.mem_cons.mp hq with e | hq
  · rw [e]; exact bn_62
  rcases List.mem_cons.mp hq with e | hq
  · rw [e]; exact bn_63
  rcases List.mem_cons.mp hq with e | hq
  · rw [e]; exact bn_64
  rcases List.mem_cons.mp hq with e | hq
  · rw [e]; exact bn_65
  rcases List.mem_cons.mp hq with e | hq
  · rw [e]; exact bn_66
  rcases List.mem_cons.mp hq with e | hq
  · rw [e]; exact bn_67
  rcases List.mem_cons.mp hq with e | hq
  · rw [e]; exact bn_68
  rcases List.mem_cons.mp hq with e | hq
  · rw [e]; exact bn_69
  rcases List.mem_cons.mp hq with e | hq
  · rw [e]; exact bn_70
  rcases List.mem_cons.mp hq with e | hq
  · rw [e]; exact bn_71
  rcases List.mem_cons.mp hq with e | hq
  · rw [e]; exact bn_72
  rcases List.mem_cons.mp hq with e | hq
  · rw [e]; exact bn_73
  rcases List.mem_cons.mp hq with e | hq
  · rw [e]; exact bn_74
  rcases List.mem_cons.mp hq with e | hq
  · rw [e]; exact bn_75
  rcases List.mem_cons.mp hq with e | hq
  · rw [e]; exact bn_76
  rcases List.mem_cons.mp hq with e | hq
  · rw [e]; exact bn_77
  rcases List.mem_cons.mp hq with e | hq
  · rw [e]; exact bn_78
  rcases List.mem_cons.mp hq with e | hq
  · rw [e]; exact bn_79
  rcases List.mem_cons.mp hq with e | hq
  · rw [e]; exact bn_80
  rcases List.mem_cons.mp hq with e | hq
  · rw [e]; exact bn_81
  rcases List.mem_cons.mp hq with e | hq
  · rw [e]; exact bn_82
  rcases List.mem_cons.mp hq with e | hq
  · rw [e]; exact bn_83
  rcases List.mem_cons.mp hq with e | hq
  · rw [e]; exact bn_84
  rcases List.mem_cons.mp hq with e | hq
  · rw [e]; exact bn_85
  rcases List.mem_cons.mp hq with e | hq
  · rw [e]; exact bn_86
  rcases List.mem_cons.mp hq with e | hq
  · rw [e]; exact bn_87
  rcases List.mem_cons.mp hq with e | hq
  · rw [e]; exact bn_88
  rcases List.mem_cons.mp hq with e | hq
  · rw [e]; exact bn_89
  rcases List.mem_cons.mp hq with e | hq
  · rw [e]; exact bn_90
  rcases List.mem_cons.mp hq with e | hq
  · rw [e]; exact bn_91
  rcases List.mem_cons.mp hq with e | hq
  · rw [e]; exact bn_92
  rcases List.mem_cons.mp hq with e | hq
  · rw [e]; exact bn_93
  rcases List.mem_cons.mp hq with e | hq
  · rw [e]; exact bn_94
  rcases List.mem_cons.mp hq with e | hq
  · rw [e]; exact bn_95
  rcases List.mem_cons.mp hq with e | hq
  · rw [e]; exact bn_96
  rcases List.mem_cons.mp hq with e | hq
  · rw [e]; exact bn_97
  rcases List.mem_cons.mp hq with e | hq
  · rw [e]; exact bn_98
  rcases List.mem_cons.mp hq with e | hq
  · rw [e]; exact bn_99
  rcases List.mem_cons.mp hq with e | hq
  · rw [e]; exact bn_100
  rcases List.mem_cons.mp hq with e | hq
  · rw [e]; exact bn_101
  rcases List.mem_cons.mp hq with e | hq
  · rw [e]; exact bn_102
  rcases List.mem_cons.mp hq with e | hq
  · rw [e]; exact bn_103
  rcases List.mem_cons.mp hq with e | hq
  · rw [e]; exact bn_104
  rcases List.mem_cons.mp hq with e | hq
  · rw [e]; exact bn_105
  rcases List.mem_cons.mp hq with e | hq
  · rw [e]; exact bn_106
  rcases List.mem_cons.mp hq with e | hq
  · rw [e]; exact bn_107
  rcases List.mem_cons.mp hq with e | hq
  · rw [e]; exact bn_108
  rcases List.mem_cons.mp hq with e | hq
  · rw [e]; exact bn_109
  rcases List.mem_cons.mp hq with e | hq
  · rw [e]; exact bn_110
  rcases List.mem_cons.mp hq with e | hq
  · rw [e]; exact bn_111
  rcases List.mem_cons.mp hq with e | hq
  · rw [e]; exact bn_112
  rcases List.mem_cons.mp hq with e | hq
  · rw [e]; exact bn_113
  rcases List.mem_cons.mp hq with e | hq
  · rw [e]; exact bn_114
  rcases List.mem_cons.mp hq with e | hq
  · rw [e]; exact bn_115
  rcases List.mem_cons.mp hq with e | hq
  · rw [e]; exact bn_116
  rcases List.mem_cons.mp hq with e | hq
  · rw [e]; exact bn_117
  rcases List.mem_cons.mp hq with e | hq
  · rw [e]; exact bn_118
  rcases List.mem_cons.mp hq with e | hq
  · rw [e]; exact bn_119
  rcases List.mem_cons.mp hq with e | hq
  · rw [e]; exact bn_120
  rcases List.mem_cons.mp hq with e | hq
  · rw [e]; exact bn_121
  rcases List.mem_cons.mp hq with e | hq
  · rw [e]; exact bn_122
  rcases List.mem_cons.mp hq with e | hq
  · rw [e]; exact bn_123
  rcases List.mem_cons.mp hq with e | hq
  · rw [e]; exact bn_124
  rcases List.mem_cons.mp hq with e | hq
  · rw [e]; exact bn_125
  rcases List.mem_cons.mp hq with e | hq
  · rw [e]; exact bn_126
  cases hq
end Ev

set_option maxRecDepth 100000
set_option maxHeartbeats 0
namespace Ev
open PySem
theorem r123 : isTrue (run prc 19 123 [] hp0) = true := by kernel_rfl
theorem r124_0 : isTrue (run prc 19 124 [.int 0] hp0) = true := by kernel_rfl
theorem r124_1 : isTrue (run prc 19 124 [.int 1] hp0) = true := by kernel_rfl
theorem r124_2 : isTrue (run prc 19 124 [.int 2] hp0) = true := by kernel_rfl
theorem r124_3 : isTrue (run prc 19 124 [.int 3] hp0) = true := by kernel_rfl
end Ev

set_option maxRecDepth 100000
set_option maxHeartbeats 0
namespace Ev
open PySem
/-- a pure call that says True -/
theorem pureF_true {f : List PV → Hh → R PV} {ws : List PV} {h : Hh} (hp : allP (pureV dpP) ws = true) (e : isTrue (f ws hp0) = true) : pureF f ws h = .ok (.bl true) h := by
  unfold pureF
  rw [hp]
  cases z : f ws hp0 with
  | no n => rw [z] at e; cases e
  | ok v h1 =>
    rw [z] at e
    cases v with
    | bl b =>
      cases b with
      | true => rfl
      | false => cases e
    | _ => cases e
noncomputable def st41 (cl : CallT) (s : S) : Env → Hh → R Fl := (denS prc.cls (kn prc.cls cl depthCode) (ks prc.cls cl 29) s).run
noncomputable def sts41 (cl : CallT) (ss : List S) : Env → Hh → R Fl := (denSs (denS prc.cls (kn prc.cls cl depthCode) (ks prc.cls cl 29)) ss).run
theorem sts_cons (cl : CallT) (s : S) (ss : List S) (env : Env) (h : Hh) : sts41 cl (s :: ss) env h = match st41 cl s env h with
    | .ok f h1 => match f with
      | .nx e1 => sts41 cl ss e1 h1
      | f => .ok f h1
    | .no n => .no n := rfl
def body41 : List S := match fnAt prc.fns 125 with
  | some f => f.body
  | none => []
def s41 (i : Nat) : S := (body41.drop i).headD .pass
noncomputable def hh (zs xs ys : List PV) : Hh := (((hp0.new (.lst zs)).new (.lst xs)).new (.lst [.int 3])).new (.lst ys)
def en (ys : List PV) : Env := [some (.fro ys), some (.ref 3), none]
section
variable (cl : CallT)
theorem body41_eq : body41 = s41 0 :: s41 1 :: [] := by kernel_rfl
structure Cells (ns : List Int) : Prop where
  ex : ∃ (zs xs t : List PV) (a : Nat), st41 cl (s41 0) (mkEnv 3 [.fro (ns.map PV.int)]) hp0 = .ok (.nx (en (ns.map PV.int))) (hh zs xs (.int (.ofNat a) :: t))
theorem cells0 : Cells cl [] := ⟨[], [], [], 3, by kernel_rfl⟩
theorem cells1 (a : Int) (r : List Int) : Cells cl (a :: r) := ⟨[.int a], [.int (.ofNat a.natAbs)], [.int 3], a.natAbs, by kernel_rfl⟩
theorem cells : ∀ ns, Cells cl ns
  | [] => cells0 cl
  | a :: r => cells1 cl a r
theorem s1_eq : s41 1 = .ret (.and (.callP 123 [] []) (.callP 124 [.bin .mod (.bi .int [.ix (.var 1) (.lit (.int 0))]) (.lit (.int 4))] [.a 0])) := by kernel_rfl
theorem fmod_nat (a s : Nat) : (Int.ofNat a).fmod (.ofNat (s + 1)) = .ofNat (a % (s + 1)) := by
  rw [Int.fmod_eq_emod_of_nonneg _ (by show (0:Int) ≤ ((s + 1 : Nat) : Int); omega)]
  rfl
theorem last41 (h1 : isTrue (cl 123 [] hp0) = true) (zs ws xs t : List PV) (a : Nat) (h2 : isTrue (cl 124 [.int ((Int.ofNat a).fmod 4)] hp0) = true) :
    st41 cl (s41 1) (en zs) (hh ws xs (.int (.ofNat a) :: t)) = .ok (.rt (.bl true)) (hh ws xs (.int (.ofNat a) :: t)) := by
  generalize hH : hh ws xs (.int (.ofNat a) :: t) = H
  have ev : st41 cl (s41 1) (en zs) H = (match (match pureF (cl 123) [] H with
    | .ok v h1 => match v with
      | .bl c => match c with
        | true => ((kn prc.cls cl 59).e (.callP 124 [.bin .mod (.bi .int [.ix (.var 1) (.lit (.int 0))]) (.lit (.int 4))] [.a 0])).run (en zs) h1
        | false => .ok (.bl false) h1
      | _ => .no 135
    | .no n => .no n) with
    | .ok v h1 => .ok (.rt v) h1
    | .no n => .no n) := by
    unfold st41
    rw [s1_eq]
    kernel_rfl
  rw [ev, pureF_true rfl h1]
  simp only []
  subst hH
  have e : ((kn prc.cls cl 59).e (.callP 124 [.bin .mod (.bi .int [.ix (.var 1) (.lit (.int 0))]) (.lit (.int 4))] [.a 0])).run (en zs) (hh ws xs (.int (.ofNat a) :: t)) =
    pureF (cl 124) [.int ((Int.ofNat a).fmod 4)] (hh ws xs (.int (.ofNat a) :: t)) := by kernel_rfl
  rw [e, pureF_true rfl h2]
theorem main41 (ns : List Int) (h1 : isTrue (cl 123 [] hp0) = true) (q0 : isTrue (cl 124 [.int 0] hp0) = true) (q1 : isTrue (cl 124 [.int 1] hp0) = true) (q2 : isTrue (cl 124 [.int 2] hp0) = true) (q3 : isTrue (cl 124 [.int 3] hp0) = true) :
    isTrue (endFn (sts41 cl body41 (mkEnv 3 [.fro (ns.map PV.int)]) hp0)) = true := by
  obtain ⟨ws, xs, t, a, e0⟩ := (cells cl ns).ex
  rw [body41_eq, sts_cons, e0]
  simp only []
  have h2 : isTrue (cl 124 [.int ((Int.ofNat a).fmod 4)] hp0) = true := by
    have e4 : (Int.ofNat a).fmod 4 = .ofNat (a % 4) := fmod_nat a 3
    rw [e4]
    have hd : a % 4 < 4 := Nat.mod_lt _ (by decide)
    generalize a % 4 = d at hd
    match d, hd with
    | 0, _ => exact q0
    | 1, _ => exact q1
    | 2, _ => exact q2
    | 3, _ => exact q3
    | d + 4, h => exact absurd h (by omega)
  rw [sts_cons, last41 cl h1 _ _ _ _ _ h2]
  rfl
end
theorem hev : ∀ ns : List Int, ns.length ≤ 63 → isTrue (run prc 20 125 [.fro (ns.map PV.int)] hp0) = true := by
  intro ns _
  have e : run prc 20 125 [.fro (ns.map PV.int)] hp0 = endFn (sts41 (run prc 19) body41 (mkEnv 3 [.fro (ns.map PV.int)]) hp0) := rfl
  rw [e]
  exact main41 (run prc 19) ns r123 r124_0 r124_1 r124_2 r124_3
end Ev

set_option Elab.async false
set_option linter.all false
set_option maxRecDepth 100000
set_option maxHeartbeats 0
namespace Ev
open PySem PySem.Spec PyProof.Rows L2
abbrev Ro : PySem.W.OpenRow := PySem.W.OpenLaw.row PySem.Challenge.rw_swapframes_k41_ledgers_by_hand
abbrev hkV : PySem.W.Hook := hookV 5 gi rows
def obV (s : PySem.W.SharedT) : AlV := obsVG 5 gi rows (HandSHeadRun.getT s)
theorem obV_eq (s : PySem.W.SharedT) : obV s = hkV.obs s.abs := obsVG_eq (HandSHeadRun.getT_eq s)
def loose : List PySem.Str := [("AGES" : PySem.Str),("BAD" : PySem.Str),("ENTRY" : PySem.Str),("FLAGS" : PySem.Str),("FORM" : PySem.Str),("LEAST_END" : PySem.Str),("MOST_MOVES" : PySem.Str),("MOST_PRICE" : PySem.Str),("MOST_REASONS" : PySem.Str),("MOST_ROWS" : PySem.Str),("MOST_RUNS" : PySem.Str),("MOST_VALUES" : PySem.Str),("MOST_WAY" : PySem.Str),("PRICE" : PySem.Str),("RANKS_END" : PySem.Str),("SAME" : PySem.Str),("Walk" : PySem.Str),("__name__" : PySem.Str),("_law_deep" : PySem.Str),("_law_deep_right" : PySem.Str),("_law_more" : PySem.Str),("_law_pair" : PySem.Str),("_law_pair_right" : PySem.Str),("all_points" : PySem.Str),("allowed_fault" : PySem.Str),("any_stall_fault" : PySem.Str),("are_all" : PySem.Str),("are_both" : PySem.Str),("are_contents" : PySem.Str),("are_moves" : PySem.Str),("are_papers" : PySem.Str),("are_points" : PySem.Str),("are_prices" : PySem.Str),("are_reasons" : PySem.Str),("are_values" : PySem.Str),("back_fault" : PySem.Str),("bad_fault" : PySem.Str),("blocked" : PySem.Str),("body_of" : PySem.Str),("both_fault" : PySem.Str),("broken_ends_fault" : PySem.Str),("broken_remainders_fault" : PySem.Str),("changed" : PySem.Str),("converted" : PySem.Str),("cycle_fault" : PySem.Str),("cycle_walk" : PySem.Str),("do_rise" : PySem.Str),("ends_fault" : PySem.Str),("fault_of" : PySem.Str),("first_fault" : PySem.Str),("first_refused" : PySem.Str),("first_walk" : PySem.Str),("flag_of" : PySem.Str),("gone" : PySem.Str),("good_fault" : PySem.Str),("harm_fault" : PySem.Str),("headed" : PySem.Str),("headed_checker" : PySem.Str),("headed_paperchecks" : PySem.Str),("hopeless_fault" : PySem.Str),("is_age" : PySem.Str),("is_allowed" : PySem.Str),("is_at_bad" : PySem.Str),("is_choice" : PySem.Str),("is_claim" : PySem.Str),("is_content" : PySem.Str),("is_ends_table" : PySem.Str),("is_flagged" : PySem.Str),("is_ledger" : PySem.Str),("is_marked" : PySem.Str),("is_mixed_table" : PySem.Str),("is_number" : PySem.Str),("is_one_of" : PySem.Str),("is_open" : PySem.Str),("is_parts" : PySem.Str),("is_point" : PySem.Str),("is_ranks_table" : PySem.Str),("is_recurs_paper" : PySem.Str),("is_remainders_table" : PySem.Str),("is_rising" : PySem.Str),("is_rule" : PySem.Str),("is_run_form" : PySem.Str),("is_safe_paper" : PySem.Str),("is_silents_table" : PySem.Str),("is_skip" : PySem.Str),("is_spot" : PySem.Str),("is_stall_form" : PySem.Str),("is_stalled" : PySem.Str),("is_valid" : PySem.Str),("is_wait" : PySem.Str),("is_way" : PySem.Str),("keeps" : PySem.Str),("known_rows" : PySem.Str),("lacking_fault" : PySem.Str),("least_fault" : PySem.Str),("led" : PySem.Str),("ledger_ends" : PySem.Str),("ledger_fault" : PySem.Str),("listed_fault" : PySem.Str),("loose_fault" : PySem.Str),("lost_fault" : PySem.Str),("mixed_fault" : PySem.Str),("mixed_needs" : PySem.Str),("more_fault" : PySem.Str),("moves_fault" : PySem.Str),("onward" : PySem.Str),("parts_fault" : PySem.Str),("places_behind" : PySem.Str),("price_of" : PySem.Str),("rank_row_fault" : PySem.Str),("reasons_fault" : PySem.Str),("recurs_fault" : PySem.Str),("recurs_paper_fault" : PySem.Str),("remainders_fault" : PySem.Str),("row_fault" : PySem.Str),("row_places" : PySem.Str),("rows_by_spot" : PySem.Str),("rows_fault" : PySem.Str),("run_fault" : PySem.Str),("safe_fault" : PySem.Str),("safe_paper_fault" : PySem.Str),("shown_ends_fault" : PySem.Str),("shown_hopeless_fault" : PySem.Str),("shown_least_fault" : PySem.Str),("shown_remainders_fault" : PySem.Str),("silent_flags" : PySem.Str),("silent_row_fault" : PySem.Str),("silents_fault" : PySem.Str),("skipped" : PySem.Str),("stall_fault" : PySem.Str),("swap_of" : PySem.Str),("tells" : PySem.Str),("waits_below" : PySem.Str),("waits_of" : PySem.Str),("way_end" : PySem.Str),("way_fault" : PySem.Str),("way_on" : PySem.Str),("ways_fault" : PySem.Str),("with_function" : PySem.Str)]
theorem hd_a (w : World) : HandSHeadRun.PA Ro 6000 w := by
  intro os
  kernel_rfl
theorem hd_b (w : World) : HandSHeadRun.PB Ro (PySem.W.view Ro.prog [154]) loose 6000 w := by
  intro os
  kernel_rfl
theorem hd_f (w : World) : HandSHeadRun.PC Ro 6000 w (fun s => factB gi rows (kOf s)) true := by
  intro os
  kernel_rfl
def rs_0 : List FRow := [row_0, row_1, row_2, row_3, row_4, row_5, row_6, row_7, row_8, row_9, row_10, row_11, row_12, row_13, row_14, row_15, row_16, row_17, row_18, row_19, row_20, row_21, row_22, row_23, row_24, row_25, row_26, row_27, row_28, row_29, row_30, row_31, row_32, row_33, row_34, row_35, row_36, row_37, row_38, row_39, row_40, row_41, row_42, row_43, row_44, row_45, row_46, row_47, row_48, row_49, row_50, row_51, row_52, row_53, row_54, row_55, row_56, row_57, row_58, row_59, row_60, row_61, row_62, row_63, row_64, row_65, row_66, row_67, row_68, row_69, row_70, row_71, row_72, row_73, row_74, row_75, row_76, row_77, row_78, row_79, row_80, row_81, row_82, row_83, row_84, row_85, row_86, row_87, row_88, row_89, row_90, row_91, row_92, row_93, row_94, row_95, row_96, row_97, row_98, row_99, row_100, row_101, row_102, row_103, row_104, row_105, row_106, row_107, row_108, row_109, row_110, row_111, row_112, row_113, row_114, row_115, row_116, row_117, row_118, row_119, row_120, row_121, row_122, row_123, row_124, row_125]
theorem hd_c0 (w : World) : HandSHeadRun.PC Ro 6000 w (fun s => rs_0.all fun q => q.d.ok (kOf s)) true := by
  intro os
  kernel_rfl
theorem hd_d0 (w : World) : HandSHeadRun.PC Ro 6000 w (fun s => rs_0.map fun q => He.fnW (kOf s) q.d.at_) (rs_0.map fun q => q.d.val) := by
  intro os
  kernel_rfl
theorem rows_cut : rows = rs_0 := rfl
theorem hd_c (w : World) : HandSHeadRun.PC Ro 6000 w (fun s => rows.all fun q => q.d.ok (kOf s)) true := by
  rw [rows_cut]
  exact hd_c0 w
theorem hd_d (w : World) : HandSHeadRun.PC Ro 6000 w (fun s => rows.map fun q => He.fnW (kOf s) q.d.at_) (rows.map fun q => q.d.val) := by
  rw [rows_cut]
  exact hd_d0 w
theorem runV (w : World) : HandSHeadRun.RunEq Ro (PySem.W.view Ro.prog [154]) hkV obV 6000 loose w := .of (hd_a w) (hd_b w) (run_parts (fun _ => rfl) (hd_c w) (hd_d w) (hd_f w))
end Ev

set_option Elab.async false
set_option linter.all false
set_option maxRecDepth 100000
set_option maxHeartbeats 0
open PySem PySem.W PySem.Calls PyProof.Rows
theorem PySem.Challenge.cw_swapframes_k41_ledgers_by_hand_holds : PySem.Challenge.rw_swapframes_k41_ledgers_by_hand.Holds := by
  w_on; o_law
  refine HandSHeadRun.head_any (r := OpenLaw.row PySem.Challenge.rw_swapframes_k41_ledgers_by_hand) (q := view (OpenLaw.row PySem.Challenge.rw_swapframes_k41_ledgers_by_hand).prog [154]) (H := Ev.hkV) (ob := Ev.obV) (M := 6000) (loose := Ev.loose) (d := HandSHeadRun.topDef (OpenLaw.row PySem.Challenge.rw_swapframes_k41_ledgers_by_hand).prog 154) (kwd := []) Ev.obV_eq
    (by kernel_rfl) (fun s => by kernel_rfl) Ev.runV (by kernel_rfl) (by kernel_rfl) (by kernel_rfl) (by rfl) (by first | assumption | decide +kernel) (by decide +kernel) ⟨rfl, rfl, rfl, rfl, rfl, by decide +kernel⟩ ?hw ?hc
  case hw => w_witness2
  case hc =>
    refine Ev.walkW (ol := PySem.Challenge.rw_swapframes_k41_ledgers_by_hand) (most := 63) (k := 2 * 20) (x := "_law_script") rfl (by decide) (by kernel_rfl) ⟨rfl, by decide, by decide⟩ ?F
    intro w mg fa h Y G hmg0
    obtain ⟨K, KX, c⟩ := Y
    have hmg : mg ("law" : PySem.Str) = some (.ref fa) := by
      have e : (HandSHeadRun.topDef (OpenLaw.row PySem.Challenge.rw_swapframes_k41_ledgers_by_hand).prog 154).name = ("law" : PySem.Str) := by kernel_rfl
      rw [← e]
      exact hmg0
    refine ⟨K, KX, ?_⟩
    exact Ev.law_facts (P := (PySem.Challenge.rw_swapframes_k41_ledgers_by_hand).prog) (w := w) KX G c Ev.gi_fns Ev.rows_sc Ev.prc_eq Ev.prc_cls Ev.gi_nd Ev.bns 125 20 Ev.row_125 rfl "_law_script" rfl rfl rfl (fun _ _ _ _ _ _ _ => by kernel_rfl) hmg Ev.hev
