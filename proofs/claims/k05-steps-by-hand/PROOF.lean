import PyProof.Rows.All
import Wide.All
import OpenK.AllK
import Wide.FinOn
import HandS.Base
import HandS.Call
import HandS.List
import HandS.Comp
import HandS.Ends
import HandS.Dict
import HandS.Iter
import HandS.Zip
import HandS.Text
import HandS.Words
import HandS.Exc
import HandS.WordsExc
import HandS.Defaults
import HandS.TupAny
import HandS.TupMul
import HandS.Style
import PyProof.ReprRoads
import KE.DataEq
import KE.DataCmp
import KE.DataIsa
import KE.DataAny
import KE.DataMinMax
import KE.SortData
import HandS.More
import KE.KStateDown
import HandS.Head0
import HandS.Head1
import HandS.Head2
import HandS.HeadEnd
import HandS.HeadHook1
import HandS.HeadHook2
import HandS.HeadHook3
import HandS.HeadHook4
import PySem.Challenge.RW_liftcalls_k05_steps_by_hand
set_option Elab.async false
set_option linter.all false
set_option maxRecDepth 100000
set_option maxHeartbeats 4000000
/-! LC: a small core language, its values, its evaluator. -/
namespace L2.LC
open PySem

/-- a value: data by value, or a place of the store -/
inductive D where
  | dat (p : PyData)
  | ref (n : Nat)
  /-- the law's script -/
  | scr (ns : List Int)
  deriving Inhabited

/-- what stands at a place of the store -/
inductive Ob where
  | lst (xs : List D)
  | dic (kvs : List (PyData × D))
  | gone
abbrev Hs := List Ob
abbrev En := List (Option D)

/-- an error: its class (a number), its field -/
structure Xn where
  cls : Nat
  fld : D

inductive R (α : Type) where
  | ok (a : α) (h : Hs)
  | ex (x : Xn) (h : Hs)
  | no
def R.bind {α β : Type} (r : R α) (f : α → Hs → R β) : R β :=
  match r with
  | .ok a h => f a h
  | .ex x h => .ex x h
  | .no => .no
@[simp] theorem R.bind_ok {α β : Type} (a : α) (h : Hs) (f : α → Hs → R β) : (R.ok a h).bind f = f a h := rfl
@[simp] theorem R.bind_no {α β : Type} (f : α → Hs → R β) : (R.no : R α).bind f = R.no := rfl
@[simp] theorem R.bind_ex {α β : Type} (x : Xn) (h : Hs) (f : α → Hs → R β) : (R.ex x h : R α).bind f = R.ex x h := rfl
theorem R.bind_assoc {α β γ : Type} (r : R α) (f : α → Hs → R β) (g : β → Hs → R γ) : (r.bind f).bind g = r.bind fun a h => (f a h).bind g := by cases r <;> rfl
def R.of {α : Type} (o : Option α) (h : Hs) : R α := match o with | some a => .ok a h | none => .no
@[simp] theorem R.of_some {α : Type} (a : α) (h : Hs) : R.of (some a) h = R.ok a h := rfl
@[simp] theorem R.of_none {α : Type} (h : Hs) : R.of (none : Option α) h = R.no := rfl

abbrev dB (b : Bool) : D := .dat (.bool b)
abbrev dI (i : Int) : D := .dat (.int i)
abbrev dN : D := .dat .none
abbrev dT (xs : List PyData) : D := .dat (.tuple xs)
abbrev dL (xs : List PyData) : D := .dat (.list xs)

/-- all of them are data -/
def dats : List D → Option (List PyData)
  | [] => some []
  | .dat p :: r => (dats r).map (p :: ·)
  | .ref _ :: _ => none
  | .scr _ :: _ => none
/-- read as data: a list of the store by its items -/
def rd (h : Hs) : D → Option PyData
  | .dat p => some p
  | .scr ns => some (.list (ns.map .int))
  | .ref n => match h[n]? with
    | some (.lst xs) => (dats xs).map .list
    | _ => none

inductive BOp where | add | sub | mul | fdiv | mod | pow
  deriving DecidableEq
inductive COp where | eq | ne | lt | le | gt | ge | isN | notN | isin | notin
  deriving DecidableEq
inductive Ty where | int | bool | str | tuple
  deriving DecidableEq
inductive BF where
  | len | int | all | any | sorted | tuple | list | min1 | max1 | min2 | max2 | abs | repr
  deriving DecidableEq

mutual
inductive CE where
  | var (i : Nat)
  | cst (d : PyData)
  | tup (es : CEs)
  | lst (es : CEs)
  | mk (es : CEs)
  | bin (o : BOp) (a b : CE)
  | neg (a : CE)
  | nt (a : CE)
  | and (a b : CE)
  | or (a b : CE)
  | cmp (o : COp) (a b : CE)
  | chn (o o' : COp) (a b c : CE)
  | ite (c a b : CE)
  | call (f : Nat) (es : CEs)
  | bf (b : BF) (es : CEs)
  | isi (t : Ty) (a : CE)
  | idx (a i : CE)
  | slc (a : CE) (lo hi : CO)
  | comp (e : CE) (t : Tg) (own : List (Str × Nat)) (it : IT) (c : CO)
  | tab (x : Str) (t : List (Str × PyData)) (a : CE)
  | frz (a : CE)
inductive CEs where
  | nil
  | cons (e : CE) (es : CEs)
inductive CO where
  | none
  | some (e : CE)
inductive IT where
  | seq (a : CE)
  | rng1 (a : CE)
  | rng2 (a b : CE)
  | enum (a : CE)
  | zip (a b : CE)
inductive Tg where
  | name (i : Nat)
  | tup (ts : Tgs)
inductive Tgs where
  | nil
  | cons (t : Tg) (ts : Tgs)
end
mutual
inductive CS where
  | asg (t : Tg) (e : CE)
  | par (i j : Nat) (a b : CE)
  | par3 (i j l : Nat) (a b c : CE)
  | app (l e : CE)
  | ret (e : CE)
  | cond (c : CE) (a b : CSs)
  | loop (t : Tg) (it : IT) (b : CSs)
  | whl (c : CE) (b : CSs)
  | drop (e : CE)
  | never
inductive CSs where
  | nil
  | cons (s : CS) (ss : CSs)
end

/-! ### data -/
def kMerge {α : Type} (le : α → α → Bool) : Nat → List α → List α → List α
  | 0, xs, ys => xs ++ ys
  | _ + 1, [], ys => ys
  | _ + 1, xs, [] => xs
  | n + 1, x :: xs, y :: ys => if le x y then x :: kMerge le n xs (y :: ys) else y :: kMerge le n (x :: xs) ys
theorem kMerge_eq {α : Type} (le : α → α → Bool) : ∀ (n : Nat) (xs ys : List α), xs.length + ys.length ≤ n → kMerge le n xs ys = List.merge xs ys le
  | 0, [], [], _ => by simp [kMerge]
  | 0, [], _ :: _, h => by simp at h
  | 0, _ :: _, _, h => by simp at h
  | n + 1, [], ys, _ => by simp [kMerge]
  | n + 1, x :: xs, [], _ => by simp [kMerge]
  | n + 1, x :: xs, y :: ys, h => by
    simp only [List.length_cons] at h
    rw [kMerge, kMerge_eq le n xs (y :: ys) (by simp; omega), kMerge_eq le n (x :: xs) ys (by simp; omega), List.cons_merge_cons]
def kSortF {α : Type} (le : α → α → Bool) : Nat → List α → List α
  | 0, xs => xs
  | _ + 1, [] => []
  | _ + 1, [a] => [a]
  | n + 1, a :: b :: xs => kMerge le (xs.length + 2) (kSortF le n ((a :: b :: xs).take ((xs.length + 3) / 2))) (kSortF le n ((a :: b :: xs).drop ((xs.length + 3) / 2)))
theorem kSortF_eq {α : Type} (le : α → α → Bool) : ∀ (n : Nat) (xs : List α), xs.length ≤ n → kSortF le n xs = xs.mergeSort le
  | 0, [], _ => by simp [kSortF]
  | 0, _ :: _, h => by simp at h
  | n + 1, [], _ => by simp [kSortF]
  | n + 1, [a], _ => by simp [kSortF]
  | n + 1, a :: b :: xs, h => by
    simp only [List.length_cons] at h
    rw [kSortF, kSortF_eq le n _ (by simp; omega), kSortF_eq le n _ (by simp; omega), kMerge_eq le _ _ _ (by simp [List.length_mergeSort]; omega)]
    conv => rhs; rw [List.mergeSort]
    simp only [List.MergeSort.Internal.splitInTwo_fst, List.MergeSort.Internal.splitInTwo_snd]
    rfl
def kSort {α : Type} (le : α → α → Bool) (xs : List α) : List α := kSortF le xs.length xs
theorem kSort_eq {α : Type} (le : α → α → Bool) (xs : List α) : kSort le xs = xs.mergeSort le := kSortF_eq le _ _ (Nat.le_refl _)
def deep (p q : PyData) : Bool := decide (min p.depth q.depth ≤ 100)
def cut {α : Type} (xs : List α) (lo hi : Option Int) : List α := (xs.drop (HT.sIx xs.length 0 lo)).take (HT.sIx xs.length xs.length hi - HT.sIx xs.length 0 lo)
def small (i : Int) : Bool := decide (-(2 ^ 64) < i) && decide (i < 2 ^ 64)

def binP : BOp → PyData → PyData → Option PyData
  | .add, .int i, .int j => some (.int (i + j))
  | .add, .tuple xs, .tuple ys => if xs.length + ys.length ≤ sizeLine then some (.tuple (xs ++ ys)) else none
  | .add, .list xs, .list ys => if xs.length + ys.length ≤ sizeLine then some (.list (xs ++ ys)) else none
  | .sub, .int i, .int j => some (.int (i - j))
  | .mul, .int i, .int j => if small i || small j then some (.int (i * j)) else none
  | .mul, .tuple xs, .int j => if j = 1 then some (.tuple xs) else if j = 0 ∧ xs ≠ [] then some (.tuple []) else if 2 ≤ j ∧ j ≤ 1000 ∧ xs.length ≤ 1000 ∧ xs ≠ [] then some (.tuple (List.replicate j.toNat xs).flatten) else none
  | .fdiv, .int i, .int j => if 0 < j ∧ j < 1073741824 then some (.int (i / j)) else none
  | .mod, .int i, .int j => if 0 < j then some (.int (i % j)) else none
  | .pow, .int i, .int j => if 0 ≤ j ∧ j ≤ 1000000 ∧ i.natAbs < 2 ^ 64 then some (.int (i ^ j.toNat)) else none
  | _, _, _ => none
def binD (o : BOp) : D → D → Option D
  | .dat p, .dat q => (binP o p q).map .dat
  | _, _ => none

def ordP (o : COp) (p q : PyData) : Option Bool :=
  match o with
  | .lt => if PySem.W.alike p q && deep p q then (match p with | .none => none | _ => some (PySem.W.dataLt p q)) else none
  | _ => none
def cmpP (o : COp) (p q : PyData) : Option Bool :=
  match o, p, q with
  | .eq, _, _ => if deep p q then some (PyData.eqv p q) else none
  | .ne, _, _ => if deep p q then some (!PyData.eqv p q) else none
  | .lt, .int i, .int j => some (decide (i < j))
  | .le, .int i, .int j => some (decide (i ≤ j))
  | .gt, .int i, .int j => some (decide (j < i))
  | .ge, .int i, .int j => some (decide (j ≤ i))
  | .isin, _, .tuple xs => if deep (.tuple xs) p then some (xs.any fun y => PyData.eqv y p) else none
  | .isin, _, .list xs => if deep (.list xs) p then some (xs.any fun y => PyData.eqv y p) else none
  | .notin, _, .tuple xs => if deep (.tuple xs) p then some (!xs.any fun y => PyData.eqv y p) else none
  | .notin, _, .list xs => if deep (.list xs) p then some (!xs.any fun y => PyData.eqv y p) else none
  | o, p, q => ordP o p q
def isNone : D → Bool
  | .dat .none => true
  | _ => false
def cmpD (h : Hs) (o : COp) (x y : D) : Option Bool :=
  match o with
  | .isN => if isNone y then some (isNone x) else none
  | .notN => if isNone y then some (!isNone x) else none
  | o => match rd h x, rd h y with
    | some p, some q => cmpP o p q
    | _, _ => none

def allAlike (xs : List PyData) : Bool := xs.all fun x => xs.all fun y => PySem.W.alike x y
def sortable (xs : List PyData) : Bool := (xs.all fun x => match x with | .tuple (_ :: _) => true | _ => false) || (xs.all fun x => match x with | .tuple _ => false | .none => false | _ => true)
def items : PyData → Option (List PyData)
  | .list xs => some xs
  | .tuple xs => some xs
  | _ => none
def isBoolD : PyData → Bool
  | .bool _ => true
  | _ => false
def lenP : List PyData → Option PyData
  | [.list xs] => some (.int xs.length)
  | [.tuple xs] => some (.int xs.length)
  | _ => none
def intP : List PyData → Option PyData
  | [.int i] => some (.int i)
  | [.bool b] => some (.int (if b then 1 else 0))
  | _ => none
def allP : List PyData → Option PyData
  | [.list xs] => if xs.all isBoolD then some (.bool (xs.all PyData.truthy)) else none
  | _ => none
def anyP : List PyData → Option PyData
  | [.list xs] => if xs.all isBoolD then some (.bool (xs.any PyData.truthy)) else none
  | _ => none
def sortOk (xs : List PyData) : Bool := allAlike xs && sortable xs && decide (PyData.depthAll xs ≤ 100)
def sortP : List PyData → Option PyData
  | [.list xs] => if sortOk xs then some (.list (kSort (PySem.W.dataLe false id) xs)) else none
  | [.tuple xs] => if sortOk xs then some (.list (kSort (PySem.W.dataLe false id) xs)) else none
  | _ => none
def tupP : List PyData → Option PyData
  | [.list xs] => some (.tuple xs)
  | [.tuple xs] => some (.tuple xs)
  | _ => none
def lstP : List PyData → Option PyData
  | [.list xs] => some (.list xs)
  | [.tuple xs] => some (.list xs)
  | _ => none
def notNone : PyData → Bool
  | .none => false
  | _ => true
def extOk (xs : List PyData) : Bool := allAlike xs && xs.all notNone && decide (PyData.depthAll xs ≤ 100)
def minP : List PyData → Option PyData
  | [.list (x :: xs)] => if extOk (x :: xs) then some (PySem.W.minD x xs) else none
  | _ => none
def maxP : List PyData → Option PyData
  | [.list (x :: xs)] => if extOk (x :: xs) then some (PySem.W.maxD x xs) else none
  | _ => none
def min2P : List PyData → Option PyData
  | [.int i, .int j] => some (.int (if j < i then j else i))
  | _ => none
def max2P : List PyData → Option PyData
  | [.int i, .int j] => some (.int (if j > i then j else i))
  | _ => none
def absP : List PyData → Option PyData
  | [.int i] => some (.int (if i < 0 then -i else i))
  | _ => none
/-- data that can be shown -/
def reprP : List PyData → Option PyData
  | [p] => if p.showable && !p.hasDict && decide (p.depth ≤ 100) && decide (p.shown.length ≤ sizeLine) then some (.str p.shown) else none
  | _ => none
def bfP : BF → List PyData → Option PyData
  | .len => lenP
  | .int => intP
  | .all => allP
  | .any => anyP
  | .sorted => sortP
  | .tuple => tupP
  | .list => lstP
  | .min1 => minP
  | .max1 => maxP
  | .min2 => min2P
  | .max2 => max2P
  | .abs => absP
  | .repr => reprP
def rds (h : Hs) : List D → Option (List PyData)
  | [] => some []
  | d :: r => match rd h d, rds h r with
    | some p, some ps => some (p :: ps)
    | _, _ => none
def bfD (h : Hs) (b : BF) (ds : List D) : Option D :=
  match rds h ds with
  | some ps => (bfP b ps).map .dat
  | none => none
def isP : Ty → PyData → Bool
  | .int, p => p.isInt
  | .bool, p => p.isBool
  | .str, p => p.isStr
  | .tuple, p => p.isTuple
def idxP : PyData → PyData → Option PyData
  | .list xs, .int i => L2.atI xs i
  | .tuple xs, .int i => L2.atI xs i
  | _, _ => none
def slcP : PyData → Option Int → Option Int → Option PyData
  | .list xs, lo, hi => some (.list (cut xs lo hi))
  | .tuple xs, lo, hi => some (.tuple (cut xs lo hi))
  | _, _, _ => none

/-! ### targets -/
mutual
def bindT : Tg → D → En → Option En
  | .name i, d, ρ => some (ρ.set i (some d))
  | .tup ts, .dat (.tuple ps), ρ => bindTs ts ps ρ
  | .tup _, _, _ => none
def bindTs : Tgs → List PyData → En → Option En
  | .nil, [], ρ => some ρ
  | .cons t ts, p :: ps, ρ => match bindT t (.dat p) ρ with
    | some ρ' => bindTs ts ps ρ'
    | none => none
  | _, _, _ => none
end
def wipeE (ρ : En) : List Nat → En
  | [] => ρ
  | v :: vs => (wipeE ρ vs).set v none

/-! ### the evaluator -/
abbrev Calls := Nat → List D → Hs → R D
/-- a comprehension over items -/
def compL (bnd : D → Option En) (tst : En → Hs → R Bool) (elt : En → Hs → R D) : List D → Hs → R (List PyData)
  | [], h => .ok [] h
  | d :: ds, h => match bnd d with
    | none => .no
    | some ρ => match tst ρ h with
      | .ok true h1 => match elt ρ h1 with
        | .ok (.dat p) h2 => (compL bnd tst elt ds h2).bind fun ps h3 => .ok (p :: ps) h3
        | _ => .no
      | .ok false h1 => compL bnd tst elt ds h1
      | _ => .no
def asBool : D → Option Bool
  | .dat (.bool b) => some b
  | _ => none
def asB (r : R D) : R Bool := r.bind fun d h => R.of (asBool d) h
def rngL (lo hi : Int) : List D := (List.range (hi - lo).toNat).map fun (k : Nat) => dI (lo + (k : Int))
def rngOk (i : Int) : Bool := decide (-1000000 ≤ i) && decide (i ≤ 1000000)

mutual
def evE (C : Calls) : CE → En → Hs → R D
  | .var i, ρ, h => match ρ[i]? with
    | some (some d) => .ok d h
    | _ => .no
  | .cst p, _, h => .ok (.dat p) h
  | .tup es, ρ, h => (evEs C es ρ h).bind fun ds h1 => R.of ((dats ds).map dT) h1
  | .lst es, ρ, h => (evEs C es ρ h).bind fun ds h1 => R.of ((dats ds).map dL) h1
  | .mk es, ρ, h => (evEs C es ρ h).bind fun ds h1 => .ok (.ref h1.length) (h1 ++ [.lst ds])
  | .bin o a b, ρ, h => (evE C a ρ h).bind fun x h1 => (evE C b ρ h1).bind fun y h2 => R.of (binD o x y) h2
  | .neg a, ρ, h => (evE C a ρ h).bind fun x h1 => match x with
    | .dat (.int i) => .ok (dI (-i)) h1
    | _ => .no
  | .nt a, ρ, h => (asB (evE C a ρ h)).bind fun t h1 => .ok (dB (!t)) h1
  | .and a b, ρ, h => (asB (evE C a ρ h)).bind fun t h1 => if t then evE C b ρ h1 else .ok (dB false) h1
  | .or a b, ρ, h => (asB (evE C a ρ h)).bind fun t h1 => if t then .ok (dB true) h1 else evE C b ρ h1
  | .cmp o a b, ρ, h => (evE C a ρ h).bind fun x h1 => (evE C b ρ h1).bind fun y h2 => R.of ((cmpD h2 o x y).map dB) h2
  | .chn o o' a b c, ρ, h => (evE C a ρ h).bind fun x h1 => (evE C b ρ h1).bind fun y h2 => match cmpD h2 o x y with
    | some true => (evE C c ρ h2).bind fun z h3 => R.of ((cmpD h3 o' y z).map dB) h3
    | some false => .ok (dB false) h2
    | none => .no
  | .ite c a b, ρ, h => (asB (evE C c ρ h)).bind fun t h1 => if t then evE C a ρ h1 else evE C b ρ h1
  | .call f es, ρ, h => (evEs C es ρ h).bind fun ds h1 => C f ds h1
  | .bf b es, ρ, h => (evEs C es ρ h).bind fun ds h1 => R.of (bfD h1 b ds) h1
  | .isi t a, ρ, h => (evE C a ρ h).bind fun x h1 => match x with
    | .dat p => .ok (dB (isP t p)) h1
    | _ => .no
  | .idx a i, ρ, h => (evE C a ρ h).bind fun x h1 => (evE C i ρ h1).bind fun y h2 => match rd h2 x, y with
    | some p, .dat q => R.of ((idxP p q).map .dat) h2
    | _, _ => .no
  | .slc a lo hi, ρ, h => (evE C a ρ h).bind fun x h1 => (evO C lo ρ h1).bind fun i h2 => (evO C hi ρ h2).bind fun j h3 => match x with
    | .dat p => R.of ((slcP p i j).map .dat) h3
    | _ => .no
  | .comp e t own it c, ρ, h => (evI C it ρ h).bind fun ds h1 =>
      (compL (fun d => bindT t d (wipeE ρ (own.map (·.2)))) (fun ρ' h' => evT C c ρ' h') (fun ρ' h' => evE C e ρ' h') ds h1).bind fun ps h2 => .ok (dL ps) h2
  | .tab _ t a, ρ, h => (evE C a ρ h).bind fun x h1 => match x with
    | .dat (.str s) => R.of ((t.lookup s).map .dat) h1
    | _ => .no
  | .frz a, ρ, h => (evE C a ρ h).bind fun x h1 => match x with
    | .ref n => match rd h1 (.ref n) with
      | some p => .ok (.dat p) (h1.set n .gone)
      | none => .no
    | .dat p => .ok (.dat p) h1
    | .scr _ => .no
def evEs (C : Calls) : CEs → En → Hs → R (List D)
  | .nil, _, h => .ok [] h
  | .cons e es, ρ, h => (evE C e ρ h).bind fun d h1 => (evEs C es ρ h1).bind fun ds h2 => .ok (d :: ds) h2
def evO (C : Calls) : CO → En → Hs → R (Option Int)
  | .none, _, h => .ok none h
  | .some e, ρ, h => (evE C e ρ h).bind fun d h1 => match d with
    | .dat (.int i) => .ok (some i) h1
    | _ => .no
def evT (C : Calls) : CO → En → Hs → R Bool
  | .none, _, h => .ok true h
  | .some e, ρ, h => asB (evE C e ρ h)
def evI (C : Calls) : IT → En → Hs → R (List D)
  | .seq a, ρ, h => (evE C a ρ h).bind fun x h1 => match x with
    | .dat (.list ps) => .ok (ps.map .dat) h1
    | .dat (.tuple ps) => .ok (ps.map .dat) h1
    | .scr ns => .ok (ns.map dI) h1
    | _ => .no
  | .rng1 a, ρ, h => (evE C a ρ h).bind fun x h1 => match x with
    | .dat (.int i) => if rngOk i then .ok (rngL 0 i) h1 else .no
    | _ => .no
  | .rng2 a b, ρ, h => (evE C a ρ h).bind fun x h1 => (evE C b ρ h1).bind fun y h2 => match x, y with
    | .dat (.int i), .dat (.int j) => if rngOk i && rngOk j then .ok (rngL i j) h2 else .no
    | _, _ => .no
  | .enum a, ρ, h => (evE C a ρ h).bind fun x h1 => match x with
    | .dat (.list ps) => .ok (ps.mapIdx fun i p => dT [.int i, p]) h1
    | _ => .no
  | .zip a b, ρ, h => (evE C a ρ h).bind fun x h1 => (evE C b ρ h1).bind fun y h2 => match x, y with
    | .dat (.list ps), .dat (.list qs) => .ok ((ps.zip qs).map fun r => dT [r.1, r.2]) h2
    | .dat (.tuple ps), .dat (.tuple qs) => .ok ((ps.zip qs).map fun r => dT [r.1, r.2]) h2
    | _, _ => .no
end

inductive Fl where
  | nx (ρ : En)
  | rt (d : D)
  | bk (ρ : En)
  | ct (ρ : En)
def forL (bnd : D → En → Option En) (body : En → Hs → R Fl) : List D → En → Hs → R Fl
  | [], ρ, h => .ok (.nx ρ) h
  | d :: ds, ρ, h => match bnd d ρ with
    | none => .no
    | some ρ1 => (body ρ1 h).bind fun fl h1 => match fl with
      | .nx ρ2 => forL bnd body ds ρ2 h1
      | .ct ρ2 => forL bnd body ds ρ2 h1
      | .bk ρ2 => .ok (.nx ρ2) h1
      | .rt v => .ok (.rt v) h1
def whlL (tst : En → Hs → R Bool) (body : En → Hs → R Fl) : Nat → En → Hs → R Fl
  | 0, _, _ => .no
  | n + 1, ρ, h => (tst ρ h).bind fun t h1 => if t then (body ρ h1).bind fun fl h2 => match fl with
      | .nx ρ2 => whlL tst body n ρ2 h2
      | .ct ρ2 => whlL tst body n ρ2 h2
      | .bk ρ2 => .ok (.nx ρ2) h2
      | .rt v => .ok (.rt v) h2
    else .ok (.nx ρ) h1
/-- the most turns of a while -/
def turns : Nat := 2 ^ 64

def lstAt (h : Hs) : D → Option Nat
  | .ref n => match h[n]? with
    | some (.lst _) => some n
    | _ => none
  | _ => none
def appAt (n : Nat) (y : D) (ρ : En) (h : Hs) : R Fl := match h[n]? with
  | some (.lst xs) => if xs.length < sizeLine then .ok (.nx ρ) (h.set n (.lst (xs ++ [y]))) else .no
  | _ => .no
mutual
def evS (C : Calls) : CS → En → Hs → R Fl
  | .asg t e, ρ, h => (evE C e ρ h).bind fun x h1 => R.of ((bindT t x ρ).map .nx) h1
  | .par i j a b, ρ, h => (evE C a ρ h).bind fun x h1 => (evE C b ρ h1).bind fun y h2 => .ok (.nx ((ρ.set i (some x)).set j (some y))) h2
  | .par3 i j l a b c, ρ, h => (evE C a ρ h).bind fun x h1 => (evE C b ρ h1).bind fun y h2 => (evE C c ρ h2).bind fun z h3 => .ok (.nx (((ρ.set i (some x)).set j (some y)).set l (some z))) h3
  | .app l e, ρ, h => (evE C l ρ h).bind fun x h1 => match lstAt h1 x with
    | some n => (evE C e ρ h1).bind fun y h2 => appAt n y ρ h2
    | none => .no
  | .ret e, ρ, h => (evE C e ρ h).bind fun x h1 => .ok (.rt x) h1
  | .cond c a b, ρ, h => (asB (evE C c ρ h)).bind fun t h1 => if t then evSs C a ρ h1 else evSs C b ρ h1
  | .loop t it b, ρ, h => (evI C it ρ h).bind fun ds h1 => forL (fun d ρ => bindT t d ρ) (fun ρ h => evSs C b ρ h) ds ρ h1
  | .whl c b, ρ, h => whlL (fun ρ h => asB (evE C c ρ h)) (fun ρ h => evSs C b ρ h) turns ρ h
  | .drop e, ρ, h => (evE C e ρ h).bind fun _ h1 => .ok (.nx ρ) h1
  | .never, _, _ => .no
def evSs (C : Calls) : CSs → En → Hs → R Fl
  | .nil, ρ, h => .ok (.nx ρ) h
  | .cons s ss, ρ, h => (evS C s ρ h).bind fun fl h1 => match fl with
    | .nx ρ1 => evSs C ss ρ1 h1
    | .rt v => .ok (.rt v) h1
    | .bk ρ1 => .ok (.bk ρ1) h1
    | .ct ρ1 => .ok (.ct ρ1) h1
end

/-- a def: its names (parameters first), how many parameters, its body -/
structure FD where
  name : Str
  ns : List Str
  np : Nat
  body : CSs
def runF (C : Calls) (fd : FD) (args : List D) (h : Hs) : R D :=
  if args.length = fd.np then (evSs C fd.body (args.map some ++ List.replicate (fd.ns.length - fd.np) none) h).bind fun fl h1 => match fl with
    | .nx _ => .ok dN h1
    | .rt d => .ok d h1
    | _ => .no
  else .no
def evF (G : List FD) : Nat → Calls
  | 0 => fun _ _ _ => .no
  | k + 1 => fun f args h => match G[f]? with
    | some fd => runF (evF G k) fd args h
    | none => .no
end L2.LC

/-! LC: how values of the core stand in the layer's heap. -/
namespace L2.LC
open PySem PySem.Spec PyProof.Rows

def Ob.live : Ob → Bool
  | .gone => false
  | _ => true
def Live (μ : List Addr) (S : Hs) (a : Addr) : Prop := ∃ (n : Nat) (o : Ob), μ[n]? = some a ∧ S[n]? = some o ∧ o.live = true

/-- live, or hidden (a list that a comprehension fills) -/
def Lv (Z : Addr → Prop) (μ : List Addr) (S : Hs) (a : Addr) : Prop := Live μ S a ∨ Z a
/-- a list, a tuple that nobody changes -/
def FxL (H : Hp) (L : Addr → Prop) (a : Addr) (xs : List V) : Prop := Rd H a (.lst xs) ∧ ¬ L a
def FxT (K : PySem.W.Frag) (H : Hp) (L : Addr → Prop) (a : Addr) (xs : List V) : Prop := (Rd H a (.tup xs) ∧ ¬ L a) ∨
  ∃ (o : Obj) (its : Array Value) (n : Nat), K.lookup a = some o ∧ o.cls = .type "tuple" ∧ o.data = .seq its n ∧ its.size ≤ sizeLine ∧ Vals xs its.toList
mutual
inductive Rp (K : PySem.W.Frag) (H : Hp) (L : Addr → Prop) : V → PyData → Prop
  | non : Rp K H L .non .none
  | bl (b : Bool) : Rp K H L (.bl b) (.bool b)
  | int (i : Int) : Rp K H L (.int i) (.int i)
  | str (x : Str) : Rp K H L (.str x) (.str x)
  | lst {a : Addr} {xs : List V} {ds : List PyData} : FxL H L a xs → ds.length ≤ sizeLine → RpAll K H L xs ds → Rp K H L (.ref a) (.list ds)
  | tup {a : Addr} {xs : List V} {ds : List PyData} : FxT K H L a xs → ds.length ≤ sizeLine → RpAll K H L xs ds → Rp K H L (.ref a) (.tuple ds)
inductive RpAll (K : PySem.W.Frag) (H : Hp) (L : Addr → Prop) : List V → List PyData → Prop
  | nil : RpAll K H L [] []
  | cons {v : V} {vs : List V} {d : PyData} {ds : List PyData} : Rp K H L v d → RpAll K H L vs ds → RpAll K H L (v :: vs) (d :: ds)
end
theorem FxL.sq {K : PySem.W.Frag} {H : Hp} {L : Addr → Prop} {a : Addr} {xs : List V} (h : FxL H L a xs) : SqL K H a xs := .inl h.1
theorem FxT.sq {K : PySem.W.Frag} {H : Hp} {L : Addr → Prop} {a : Addr} {xs : List V} (h : FxT K H L a xs) : SqT K H a xs := by
  rcases h with h | h
  · exact .inl h.1
  · exact .inr h
mutual
theorem Rp.dp {K : PySem.W.Frag} {H : Hp} {L : Addr → Prop} : ∀ {v : V} {p : PyData}, Rp K H L v p → Dp K H v p
  | _, _, .non => .non
  | _, _, .bl b => .bl b
  | _, _, .int i => .int i
  | _, _, .str x => .str x
  | _, _, .lst h _ r => .lst h.sq (RpAll.dp r)
  | _, _, .tup h _ r => .tup h.sq (RpAll.dp r)
theorem RpAll.dp {K : PySem.W.Frag} {H : Hp} {L : Addr → Prop} : ∀ {vs : List V} {ps : List PyData}, RpAll K H L vs ps → DpAll K H vs ps
  | _, _, .nil => .nil
  | _, _, .cons a b => .cons (Rp.dp a) (RpAll.dp b)
end

/-- heaps one behind another: what is not a live place is kept -/
structure Later (μ : List Addr) (S : Hs) (H : Hp) (μ' : List Addr) (S' : Hs) (H' : Hp) : Prop where
  pre : ∃ t, μ' = μ ++ t
  keep : ∀ a o, H a = some o → ¬ Live μ S a → H' a = some o ∧ ¬ Live μ' S' a
theorem Later.refl (μ : List Addr) (S : Hs) (H : Hp) : Later μ S H μ S H := ⟨⟨[], by simp⟩, fun _ _ h n => ⟨h, n⟩⟩
theorem Later.trans {μ μ1 μ2 : List Addr} {S S1 S2 : Hs} {H H1 H2 : Hp} (a : Later μ S H μ1 S1 H1) (b : Later μ1 S1 H1 μ2 S2 H2) : Later μ S H μ2 S2 H2 := by
  obtain ⟨t, rfl⟩ := a.pre
  obtain ⟨u, rfl⟩ := b.pre
  exact ⟨⟨t ++ u, by simp⟩, fun c o h n => b.keep c o (a.keep c o h n).1 (a.keep c o h n).2⟩
theorem Later.at {μ μ' : List Addr} {S S' : Hs} {H H' : Hp} (l : Later μ S H μ' S' H') {n : Nat} {a : Addr} (h : μ[n]? = some a) : μ'[n]? = some a := by
  obtain ⟨t, rfl⟩ := l.pre
  obtain ⟨hn, e⟩ := List.getElem?_eq_some_iff.mp h
  rw [List.getElem?_append_left hn]
  exact h
theorem Later.rd {μ μ' : List Addr} {S S' : Hs} {H H' : Hp} (l : Later μ S H μ' S' H') {a : Addr} {u : HO} (h : Rd H a u) (n : ¬ Live μ S a) : Rd H' a u ∧ ¬ Live μ' S' a := by
  rcases h with h | ⟨o, h⟩
  · exact ⟨.inl (l.keep a _ h n).1, (l.keep a _ h n).2⟩
  · exact ⟨.inr ⟨o, (l.keep a _ h n).1⟩, (l.keep a _ h n).2⟩
theorem FxL.later {Z : Addr → Prop} {μ μ' : List Addr} {S S' : Hs} {H H' : Hp} (l : Later μ S H μ' S' H') {a : Addr} {xs : List V} (h : FxL H (Lv Z μ S) a xs) : FxL H' (Lv Z μ' S') a xs :=
  let q := l.rd h.1 (fun z => h.2 (.inl z)); ⟨q.1, fun z => z.elim q.2 fun y => h.2 (.inr y)⟩
theorem FxT.later {K : PySem.W.Frag} {Z : Addr → Prop} {μ μ' : List Addr} {S S' : Hs} {H H' : Hp} (l : Later μ S H μ' S' H') {a : Addr} {xs : List V} (h : FxT K H (Lv Z μ S) a xs) : FxT K H' (Lv Z μ' S') a xs := by
  rcases h with h | h
  · have q := l.rd h.1 (fun z => h.2 (.inl z))
    exact .inl ⟨q.1, fun z => z.elim q.2 fun y => h.2 (.inr y)⟩
  · exact .inr h
mutual
theorem Rp.later {K : PySem.W.Frag} {Z : Addr → Prop} {μ μ' : List Addr} {S S' : Hs} {H H' : Hp} (l : Later μ S H μ' S' H') : ∀ {v : V} {p : PyData}, Rp K H (Lv Z μ S) v p → Rp K H' (Lv Z μ' S') v p
  | _, _, .non => .non
  | _, _, .bl b => .bl b
  | _, _, .int i => .int i
  | _, _, .str x => .str x
  | _, _, .lst h z r => .lst (h.later l) z (RpAll.later l r)
  | _, _, .tup h z r => .tup (h.later l) z (RpAll.later l r)
theorem RpAll.later {K : PySem.W.Frag} {Z : Addr → Prop} {μ μ' : List Addr} {S S' : Hs} {H H' : Hp} (l : Later μ S H μ' S' H') : ∀ {vs : List V} {ps : List PyData}, RpAll K H (Lv Z μ S) vs ps → RpAll K H' (Lv Z μ' S') vs ps
  | _, _, .nil => .nil
  | _, _, .cons a b => .cons (Rp.later l a) (RpAll.later l b)
end

/-- a list of the written part -/
def KL (K : PySem.W.Frag) (a : Addr) (xs : List V) : Prop := ∃ (o : Obj) (its : Array Value) (n : Nat), K.lookup a = some o ∧ o.cls = .type "list" ∧ o.dict = none ∧ o.data = .seq its n ∧ its.size ≤ sizeLine ∧ Vals xs its.toList
/-- a value of the core -/
def RelD (K : PySem.W.Frag) (Z : Addr → Prop) (μ : List Addr) (S : Hs) (H : Hp) : D → V → Prop
  | .scr ns, v => ∃ a, v = .ref a ∧ ns.length ≤ sizeLine ∧ (FxL H (Lv Z μ S) a (ns.map V.int) ∨ KL K a (ns.map V.int))
  | .dat p, v => Rp K H (Lv Z μ S) v p
  | .ref n, v => ∃ a, v = .ref a ∧ μ[n]? = some a
abbrev RelDs (K : PySem.W.Frag) (Z : Addr → Prop) (μ : List Addr) (S : Hs) (H : Hp) : List D → List V → Prop := Paired (RelD K Z μ S H)
theorem RelD.later {K : PySem.W.Frag} {Z : Addr → Prop} {μ μ' : List Addr} {S S' : Hs} {H H' : Hp} (l : Later μ S H μ' S' H') {d : D} {v : V} (h : RelD K Z μ S H d v) : RelD K Z μ' S' H' d v := by
  cases d with
  | dat p => exact Rp.later l h
  | ref n => obtain ⟨a, e, q⟩ := h; exact ⟨a, e, l.at q⟩
  | scr ns => obtain ⟨a, e, z, q⟩ := h; exact ⟨a, e, z, q.elim (fun q => .inl (q.later l)) .inr⟩
theorem RelDs.later {K : PySem.W.Frag} {Z : Addr → Prop} {μ μ' : List Addr} {S S' : Hs} {H H' : Hp} (l : Later μ S H μ' S' H') : ∀ {ds : List D} {vs : List V}, RelDs K Z μ S H ds vs → RelDs K Z μ' S' H' ds vs
  | _, _, .nil => .nil
  | _, _, .cons a b => .cons (RelD.later l a) (RelDs.later l b)

/-- what stands at a place -/
def ObR (K : PySem.W.Frag) (Z : Addr → Prop) (μ : List Addr) (S : Hs) (H : Hp) : Ob → Addr → Prop
  | .lst ds, a => ∃ vs, H a = some (.lst vs) ∧ ds.length ≤ sizeLine ∧ RelDs K Z μ S H ds vs
  | .dic _, _ => False
  | .gone, _ => True
structure RelH (K : PySem.W.Frag) (Z : Addr → Prop) (μ : List Addr) (S : Hs) (H : Hp) : Prop where
  zt : ∀ a, Z a → (∃ o, H a = some o) ∧ a ∉ μ
  len : μ.length = S.length
  nd : μ.Nodup
  tr : ∀ a ∈ μ, ∃ o, H a = some o
  ob : ∀ (n : Nat) o a, S[n]? = some o → μ[n]? = some a → ObR K Z μ S H o a
def RelE (K : PySem.W.Frag) (Z : Addr → Prop) (μ : List Addr) (S : Hs) (H : Hp) (ρ : En) (σ : St) : Prop :=
  ρ.length = σ.length ∧ ∀ (i : Nat) d, ρ[i]? = some (some d) → ∃ v, σ[i]? = some (some v) ∧ RelD K Z μ S H d v
theorem RelE.later {K : PySem.W.Frag} {Z : Addr → Prop} {μ μ' : List Addr} {S S' : Hs} {H H' : Hp} (l : Later μ S H μ' S' H') {ρ : En} {σ : St} (h : RelE K Z μ S H ρ σ) : RelE K Z μ' S' H' ρ σ :=
  ⟨h.1, fun i d e => let ⟨v, q, r⟩ := h.2 i d e; ⟨v, q, r.later l⟩⟩
theorem RelE.set {K : PySem.W.Frag} {Z : Addr → Prop} {μ : List Addr} {S : Hs} {H : Hp} {ρ : En} {σ : St} (h : RelE K Z μ S H ρ σ) (i : Nat) {d : D} {v : V} (r : RelD K Z μ S H d v) : RelE K Z μ S H (ρ.set i (some d)) (σ.set i (some v)) := by
  refine ⟨by simp [h.1], fun j e q => ?_⟩
  by_cases hj : i = j
  · subst hj
    by_cases hl : i < ρ.length
    · rw [List.getElem?_set_self hl] at q
      cases q
      exact ⟨v, List.getElem?_set_self (by rw [← h.1]; exact hl), r⟩
    · rw [List.getElem?_eq_none (by simpa using hl)] at q
      cases q
  · rw [List.getElem?_set_ne hj] at q ⊢
    exact h.2 j e q
theorem RelE.wipe {K : PySem.W.Frag} {Z : Addr → Prop} {μ : List Addr} {S : Hs} {H : Hp} {ρ : En} {σ : St} (h : RelE K Z μ S H ρ σ) : ∀ vs : List Nat, RelE K Z μ S H (wipeE ρ vs) (L2.wipe σ vs)
  | [] => h
  | v :: vs => by
    have ih := RelE.wipe h vs
    refine ⟨by simp [wipeE, L2.wipe, ih.1], fun j e q => ?_⟩
    unfold wipeE at q
    unfold L2.wipe
    by_cases hj : v = j
    · subst hj
      by_cases hl : v < (wipeE ρ vs).length
      · rw [List.getElem?_set_self hl] at q; cases q
      · rw [List.getElem?_eq_none (by simpa using hl)] at q; cases q
    · rw [List.getElem?_set_ne hj] at q ⊢
      exact ih.2 j e q

/-- a result is as wanted -/
def Out {α β : Type} (K : PySem.W.Frag) (Z : Addr → Prop) (Rl : List Addr → Hs → Hp → α → β → Prop) (μ : List Addr) (S : Hs) (H : Hp) (r : R α) (Q : β → Hp → Prop) : Prop :=
  match r with
  | .ok a S' => ∀ v μ' H', Later μ S H μ' S' H' → RelH K Z μ' S' H' → Rl μ' S' H' a v → Q v H'
  | .ex _ _ => False
  | .no => False
section
variable {α β γ δ : Type} {K : PySem.W.Frag} {Z : Addr → Prop} {Rl : List Addr → Hs → Hp → α → β → Prop} {Rl2 : List Addr → Hs → Hp → γ → δ → Prop} {μ μ1 : List Addr} {S S1 : Hs} {H H1 : Hp}
theorem Out.later {r : R α} {Q : β → Hp → Prop} (h : Out K Z Rl μ S H r Q) (l : Later μ S H μ1 S1 H1) : Out K Z Rl μ1 S1 H1 r Q := by
  cases r with
  | ok a S' => exact fun v μ' H' l' => h v μ' H' (l.trans l')
  | ex x S' => exact h
  | no => exact h
theorem Out.bind {r : R α} {f : α → Hs → R γ} {Q : δ → Hp → Prop} {Q' : β → Hp → Prop} (h : Out K Z Rl2 μ S H (r.bind f) Q)
    (k : ∀ a S1 v μ1 H1, r = .ok a S1 → Later μ S H μ1 S1 H1 → RelH K Z μ1 S1 H1 → Rl μ1 S1 H1 a v → Out K Z Rl2 μ1 S1 H1 (f a S1) Q → Q' v H1) : Out K Z Rl μ S H r Q' := by
  cases r with
  | ok a S' => exact fun v μ' H' l rh rv => k a S' v μ' H' rfl l rh rv (Out.later (show Out K Z Rl2 μ S H (f a S') Q from h) l)
  | ex x S' => exact h
  | no => exact h
theorem Out.ok {a : α} {Q : β → Hp → Prop} {v : β} (h : Out K Z Rl μ S H (.ok a S) Q) (rh : RelH K Z μ S H) (rv : Rl μ S H a v) : Q v H := h v μ H (Later.refl _ _ _) rh rv
end

/-- readings by the core -/
def tE (K : PySem.W.Frag) (m : En → Hs → R D) : TE := fun σ H Q => ∃ Z μ ρ S, RelH K Z μ S H ∧ RelE K Z μ S H ρ σ ∧ Out K Z (RelD K Z) μ S H (m ρ S) Q
def tAs (K : PySem.W.Frag) (m : En → Hs → R (List D)) : TA := fun σ H Q => ∃ Z μ ρ S, RelH K Z μ S H ∧ RelE K Z μ S H ρ σ ∧ Out K Z (RelDs K Z) μ S H (m ρ S) Q
/-- a test: the value is a bool -/
def RelB : List Addr → Hs → Hp → Bool → Bool → Prop := fun _ _ _ a b => a = b
def tTs (K : PySem.W.Frag) (m : En → Hs → R Bool) : TT := fun σ H Q => ∃ Z μ ρ S, RelH K Z μ S H ∧ RelE K Z μ S H ρ σ ∧ Out K Z RelB μ S H (m ρ S) Q

section
variable {X : Cx} {e : Expr}
theorem PE_wk {t t' : TE} (h : PE X e t) (w : ∀ σ H Q, t' σ H Q → t σ H Q) : PE X e t' := ⟨fun pins s σ H Q I hw => h.run pins s σ H Q I (w σ H Q hw)⟩
theorem PT_wk {t t' : TT} (h : PT X e t) (w : ∀ σ H Q, t' σ H Q → t σ H Q) : PT X e t' := ⟨fun pins s σ H Q I hw => h.run pins s σ H Q I (w σ H Q hw)⟩
theorem PA_wk {es : List Expr} {t t' : TA} (h : PA X es t) (w : ∀ σ H Q, t' σ H Q → t σ H Q) : PA X es t' := ⟨fun pos pins s σ H Q I hw => h.run pos pins s σ H Q I (w σ H Q hw)⟩
theorem PS_wk {st : Stmt} {t t' : TS} (h : PS X st t) (w : ∀ D σ H, t' D σ H → t D σ H) : PS X st t' := ⟨fun pins s σ H D I hw => h.run pins s σ H D I (w D σ H hw)⟩
theorem PSs_wk {st : List Stmt} {t t' : TS} (h : PSs X st t) (w : ∀ D σ H, t' D σ H → t D σ H) : PSs X st t' := ⟨fun pins s σ H D I hw => h.run pins s σ H D I (w D σ H hw)⟩
end

/-! ### new objects -/
section
variable {K : PySem.W.Frag} {Z : Addr → Prop} {μ : List Addr} {S : Hs} {H : Hp} {p : Addr}
theorem RelH.notin (rh : RelH K Z μ S H) (hp : H p = none) : p ∉ μ := fun h => by
  obtain ⟨o, e⟩ := rh.tr p h
  rw [hp] at e; cases e
theorem RelH.notlive (rh : RelH K Z μ S H) (hp : H p = none) : ¬ Lv Z μ S p := fun h => by
  rcases h with ⟨n, o, h1, _, _⟩ | h
  · exact rh.notin hp (List.mem_of_getElem? h1)
  · obtain ⟨⟨o, e⟩, _⟩ := rh.zt p h
    rw [hp] at e; cases e
theorem later_fresh (hp : H p = none) (o : HO) : Later μ S H μ S (upd H p o) :=
  ⟨⟨[], by simp⟩, fun a u h n => ⟨by rw [upd_ne (ne_of_none h hp)]; exact h, n⟩⟩
theorem ObR.later {μ' : List Addr} {S' : Hs} {H' : Hp} (l : Later μ S H μ' S' H') {o : Ob} {a : Addr} (h : ObR K Z μ S H o a) (e : ∀ u, H a = some u → H' a = some u) : ObR K Z μ' S' H' o a := by
  cases o with
  | lst ds => obtain ⟨vs, q, z, r⟩ := h; exact ⟨vs, e _ q, z, RelDs.later l r⟩
  | dic _ => exact h
  | gone => trivial
theorem RelH.fresh (rh : RelH K Z μ S H) (hp : H p = none) (o : HO) : RelH K Z μ S (upd H p o) := by
  refine ⟨fun a ha => ?_, rh.len, rh.nd, fun a ha => ?_, fun n u a h1 h2 => ?_⟩
  · obtain ⟨⟨u, e⟩, n⟩ := rh.zt a ha
    exact ⟨⟨u, by rw [upd_ne (ne_of_none e hp)]; exact e⟩, n⟩
  · obtain ⟨u, e⟩ := rh.tr a ha
    exact ⟨u, by rw [upd_ne (ne_of_none e hp)]; exact e⟩
  · exact (rh.ob n u a h1 h2).later (later_fresh hp o) fun v e => by rw [upd_ne (ne_of_none e hp)]; exact e
theorem live_app {q : Addr} {o : Ob} (hl : μ.length = S.length) {a : Addr} : Live (μ ++ [q]) (S ++ [o]) a → Live μ S a ∨ a = q := by
  rintro ⟨n, u, h1, h2, h3⟩
  by_cases hn : n < μ.length
  · rw [List.getElem?_append_left hn] at h1
    rw [List.getElem?_append_left (by omega)] at h2
    exact .inl ⟨n, u, h1, h2, h3⟩
  · rw [List.getElem?_append_right (by omega)] at h1
    have : a ∈ [q] := List.mem_of_getElem? h1
    exact .inr (by simpa using this)
theorem later_alloc (rh : RelH K Z μ S H) (hp : H p = none) (o : Ob) (u : HO) : Later μ S H (μ ++ [p]) (S ++ [o]) (upd H p u) := by
  refine ⟨⟨[p], rfl⟩, fun a v h n => ?_⟩
  have ne : a ≠ p := ne_of_none h hp
  refine ⟨by rw [upd_ne ne]; exact h, fun hl => ?_⟩
  rcases live_app rh.len hl with z | z
  · exact n z
  · exact ne z
theorem RelH.alloc (rh : RelH K Z μ S H) (hp : H p = none) {o : Ob} {u : HO} (ho : ObR K Z (μ ++ [p]) (S ++ [o]) (upd H p u) o p) : RelH K Z (μ ++ [p]) (S ++ [o]) (upd H p u) := by
  have l := later_alloc rh hp o u
  refine ⟨fun a ha => ?_, by simp [rh.len], ?_, fun a ha => ?_, fun n w a h1 h2 => ?_⟩
  · obtain ⟨⟨v, e⟩, n⟩ := rh.zt a ha
    refine ⟨⟨v, by rw [upd_ne (ne_of_none e hp)]; exact e⟩, fun hm => ?_⟩
    rcases List.mem_append.mp hm with z | z
    · exact n z
    · have e2 : a = p := by simpa using z
      subst e2
      rw [hp] at e; cases e
  · rw [List.nodup_append]
    refine ⟨rh.nd, by simp, fun a ha b hb => ?_⟩
    have e : b = p := by simpa using hb
    subst e
    rintro rfl
    exact rh.notin hp ha
  · rcases List.mem_append.mp ha with z | z
    · obtain ⟨v, e⟩ := rh.tr a z
      exact ⟨v, by rw [upd_ne (ne_of_none e hp)]; exact e⟩
    · have e : a = p := by simpa using z
      subst e
      exact ⟨u, upd_same⟩
  · by_cases hn : n < μ.length
    · rw [List.getElem?_append_left (by have := rh.len; omega)] at h1
      rw [List.getElem?_append_left hn] at h2
      exact (rh.ob n w a h1 h2).later l fun v e => by rw [upd_ne (ne_of_none e hp)]; exact e
    · have hl := rh.len
      rw [List.getElem?_append_right (by omega)] at h1 h2
      have e1 : w ∈ [o] := List.mem_of_getElem? h1
      have e2 : a ∈ [p] := List.mem_of_getElem? h2
      have e1' : w = o := by simpa using e1
      have e2' : a = p := by simpa using e2
      subst e1' e2'
      exact ho
end
theorem RpAll.of_dats {K : PySem.W.Frag} {Z : Addr → Prop} {μ : List Addr} {S : Hs} {H : Hp} : ∀ {ds : List D} {vs : List V} {ps : List PyData}, RelDs K Z μ S H ds vs → dats ds = some ps → RpAll K H (Lv Z μ S) vs ps
  | [], _, ps, r, e => by
    cases r
    cases e
    exact .nil
  | d :: ds, _, ps, r, e => by
    cases r with
    | cons a b =>
      cases d with
      | ref n => simp [dats] at e
      | scr ns => simp [dats] at e
      | dat p =>
        cases q : dats ds with
        | none => simp [dats, q] at e
        | some qs =>
          simp [dats, q] at e
          subst e
          exact .cons a (RpAll.of_dats b q)
theorem dats_length : ∀ {ds : List D} {ps : List PyData}, dats ds = some ps → ps.length = ds.length
  | [], ps, e => by cases e; rfl
  | d :: ds, ps, e => by
    cases d with
    | ref n => simp [dats] at e
    | scr ns => simp [dats] at e
    | dat p =>
      cases q : dats ds with
      | none => simp [dats, q] at e
      | some qs =>
        simp [dats, q] at e
        subst e
        simp [dats_length q]
theorem dats_map (ps : List PyData) : dats (ps.map .dat) = some ps := by
  induction ps with
  | nil => rfl
  | cons p ps ih => simp [dats, ih]
theorem RpAll.length {K : PySem.W.Frag} {H : Hp} {L : Addr → Prop} : ∀ {vs : List V} {ps : List PyData}, RpAll K H L vs ps → vs.length = ps.length
  | _, _, .nil => rfl
  | _, _, .cons _ b => by simp [RpAll.length b]
theorem RelDs.length {K : PySem.W.Frag} {Z : Addr → Prop} {μ : List Addr} {S : Hs} {H : Hp} {ds : List D} {vs : List V} (r : RelDs K Z μ S H ds vs) : ds.length = vs.length := Paired.length r
/-- a new tuple, a new list that nobody changes -/
theorem rp_tup {K : PySem.W.Frag} {Z : Addr → Prop} {μ : List Addr} {S : Hs} {H : Hp} {p : Addr} {vs : List V} {ps : List PyData} (rh : RelH K Z μ S H) (hp : H p = none) (r : RpAll K H (Lv Z μ S) vs ps) (hz : ps.length ≤ sizeLine) : RelD K Z μ S (upd H p (.tup vs)) (dT ps) (.ref p) :=
  Rp.tup (.inl ⟨.inl upd_same, rh.notlive hp⟩) hz (RpAll.later (later_fresh hp _) r)
theorem rp_lst {K : PySem.W.Frag} {Z : Addr → Prop} {μ : List Addr} {S : Hs} {H : Hp} {p : Addr} {vs : List V} {ps : List PyData} (rh : RelH K Z μ S H) (hp : H p = none) (r : RpAll K H (Lv Z μ S) vs ps) (hz : ps.length ≤ sizeLine) : RelD K Z μ S (upd H p (.lst vs)) (dL ps) (.ref p) :=
  Rp.lst ⟨.inl upd_same, rh.notlive hp⟩ hz (RpAll.later (later_fresh hp _) r)
end L2.LC

/-! LC: each construct of the core over the layer's rules. -/
namespace L2.LC
open PySem PySem.Spec PyProof.Rows
section
variable {X : Cx} {C : Calls}
/-! ### names, constants -/
theorem sE_var {i : Nat} {x : Str} {pos : Pos} (hN : X.N[i]? = some x) (hv : Vis X.env.scope x) (hd : (x == ("__debug__" : Str)) = false) (hcd : (x == ("__classdict__" : Str)) = false) : PE X (.Name x pos) (tE X.K (evE C (.var i))) := by
  refine PE_wk (pe_var hN hv hd hcd) fun σ H Q ⟨Z, μ, ρ, S, rh, re, o⟩ => ?_
  simp only [evE] at o
  split at o
  · rename_i d e
    obtain ⟨v, q, r⟩ := re.2 i d e
    exact ⟨v, q, o.ok rh r⟩
  · exact o.elim
/-- a constant of the written text -/
def cstOk : Const → PyData → Bool
  | .none, .none => true
  | .bool a, .bool b => a == b
  | .int a, .int b => a == b
  | .str a, .str b => decide (a = b)
  | _, _ => false
theorem sE_cst {c : Const} {p : PyData} {j : Nat} {pos : Pos} (h : cstOk c p = true) : PE X (.Constant c j pos) (tE X.K (evE C (.cst p))) := by
  cases c <;> cases p <;> simp [cstOk] at h
  · exact PE_wk pe_non fun σ H Q ⟨Z, μ, ρ, S, rh, re, o⟩ => o.ok (v := V.non) rh Rp.non
  · subst h; exact PE_wk pe_bl fun σ H Q ⟨Z, μ, ρ, S, rh, re, o⟩ => o.ok rh (Rp.bl _)
  · subst h; exact PE_wk pe_int fun σ H Q ⟨Z, μ, ρ, S, rh, re, o⟩ => o.ok rh (Rp.int _)
  · subst h; exact PE_wk pe_str fun σ H Q ⟨Z, μ, ρ, S, rh, re, o⟩ => o.ok rh (Rp.str _)
/-- a constant of the module's top -/
abbrev RpK (K : PySem.W.Frag) : V → PyData → Prop := Rp K (fun _ => none) (fun _ => False)
mutual
theorem Rp.up {K : PySem.W.Frag} {H : Hp} {L : Addr → Prop} : ∀ {v : V} {p : PyData}, RpK K v p → Rp K H L v p
  | _, _, .non => .non
  | _, _, .bl b => .bl b
  | _, _, .int i => .int i
  | _, _, .str x => .str x
  | _, _, .lst h z r => by
    obtain ⟨h, _⟩ := h
    rcases h with h | ⟨o, h⟩ <;> cases h
  | _, _, .tup h z r => by
    rcases h with ⟨h, _⟩ | h
    · rcases h with h | ⟨o, h⟩ <;> cases h
    · exact .tup (.inr h) z (RpAll.up r)
theorem RpAll.up {K : PySem.W.Frag} {H : Hp} {L : Addr → Prop} : ∀ {vs : List V} {ps : List PyData}, RpAll K (fun _ => none) (fun _ => False) vs ps → RpAll K H L vs ps
  | _, _, .nil => .nil
  | _, _, .cons a b => .cons (Rp.up a) (RpAll.up b)
end
theorem sE_glob {x : Str} {v : V} {u : Value} {p : PyData} {pos : Pos} (hg : Gl X x) (hm : X.mg x = some u) (r : RelV v u) (rp : RpK X.K v p) (hd : (x == ("__debug__" : Str)) = false) : PE X (.Name x pos) (tE X.K (evE C (.cst p))) :=
  PE_wk (pe_glob hg hm r hd) fun σ H Q ⟨Z, μ, ρ, S, rh, re, o⟩ => o.ok rh (Rp.up rp)

/-! ### argument lists, displays -/
def notStar : Expr → Bool
  | .Starred _ _ => false
  | _ => true
theorem star_cons {e : Expr} {es : List Expr} {env : Env} (h : notStar e = true) : starEach (e :: es) env = (false, eval e env) :: starEach es env := by
  cases e <;> first | rfl | (simp [notStar] at h)
theorem star_none {env : Env} : ∀ {es : List Expr}, (es.all notStar) = true → (starEach es env).any (·.1) = false
  | [], _ => rfl
  | e :: es, h => by
    simp only [List.all_cons, Bool.and_eq_true] at h
    rw [star_cons h.1]
    simp only [List.any_cons, Bool.false_or]
    exact star_none h.2
theorem sA_nil : PA X [] (tAs X.K (evEs C .nil)) := PA_wk pa_nil fun σ H Q ⟨Z, μ, ρ, S, rh, re, o⟩ => Out.ok (v := []) o rh Paired.nil
theorem sA_cons {e : Expr} {es : List Expr} {c : CE} {cs : CEs} (h : PE X e (tE X.K (evE C c))) (hs : PA X es (tAs X.K (evEs C cs))) (hn : notStar e = true) : PA X (e :: es) (tAs X.K (evEs C (.cons c cs))) := by
  refine PA_wk (pa_cons h hs (star_cons hn)) fun σ H Q ⟨Z, μ, ρ, S, rh, re, o⟩ => ?_
  simp only [evEs] at o
  refine ⟨Z, μ, ρ, S, rh, re, o.bind fun d S1 v μ1 H1 _ l1 rh1 r1 o1 => ?_⟩
  refine ⟨Z, μ1, ρ, S1, rh1, re.later l1, o1.bind fun ds S2 vs μ2 H2 _ l2 rh2 r2 o2 => ?_⟩
  exact o2.ok rh2 (Paired.cons (r1.later l2) r2)
def CEs.len : CEs → Nat
  | .nil => 0
  | .cons _ es => es.len + 1
theorem evEs_len : ∀ {es : CEs} {ρ : En} {h h' : Hs} {ds : List D}, evEs C es ρ h = .ok ds h' → ds.length = es.len
  | .nil, _, _, _, _, e => by cases e; rfl
  | .cons c cs, ρ, h, h', ds, e => by
    simp only [evEs] at e
    cases q : evE C c ρ h with
    | ok d h1 =>
      rw [q] at e
      simp only [R.bind_ok] at e
      cases q2 : evEs C cs ρ h1 with
      | ok ds2 h2 =>
        rw [q2] at e
        simp only [R.bind_ok] at e
        cases e
        simp [CEs.len, evEs_len q2]
      | ex x h2 => rw [q2] at e; cases e
      | no => rw [q2] at e; cases e
    | ex x h1 => rw [q] at e; cases e
    | no => rw [q] at e; cases e
theorem sE_tup {es : List Expr} {cs : CEs} {k : Nat} {pos : Pos} (h : PA X es (tAs X.K (evEs C cs))) (hz : cs.len ≤ 1000) : PE X (.Tuple es k pos) (tE X.K (evE C (.tup cs))) := by
  refine PE_wk (pe_tup h) fun σ H Q ⟨Z, μ, ρ, S, rh, re, o⟩ => ?_
  simp only [evE] at o
  refine ⟨Z, μ, ρ, S, rh, re, o.bind fun ds S1 vs μ1 H1 e1 l1 rh1 r1 o1 => ?_⟩
  have hl : vs.length ≤ sizeLine := by rw [← r1.length, evEs_len e1]; exact Nat.le_of_lt (small1000 hz)
  refine ⟨hl, fun p hp => ?_⟩
  cases q : dats ds with
  | none => rw [q] at o1; exact o1.elim
  | some ps =>
    rw [q] at o1
    refine o1 (.ref p) μ1 _ (later_fresh hp _) (rh1.fresh hp _) (rp_tup rh1 hp (RpAll.of_dats r1 q) ?_)
    rw [dats_length q, r1.length]; exact hl
theorem sE_lst {es : List Expr} {cs : CEs} {pos : Pos} (h : PA X es (tAs X.K (evEs C cs))) (hz : cs.len ≤ 1000) : PE X (.List es pos) (tE X.K (evE C (.lst cs))) := by
  refine PE_wk (pe_lst h) fun σ H Q ⟨Z, μ, ρ, S, rh, re, o⟩ => ?_
  simp only [evE] at o
  refine ⟨Z, μ, ρ, S, rh, re, o.bind fun ds S1 vs μ1 H1 e1 l1 rh1 r1 o1 => ?_⟩
  have hl : vs.length ≤ sizeLine := by rw [← r1.length, evEs_len e1]; exact Nat.le_of_lt (small1000 hz)
  refine ⟨hl, fun p hp => ?_⟩
  cases q : dats ds with
  | none => rw [q] at o1; exact o1.elim
  | some ps =>
    rw [q] at o1
    refine o1 (.ref p) μ1 _ (later_fresh hp _) (rh1.fresh hp _) (rp_lst rh1 hp (RpAll.of_dats r1 q) ?_)
    rw [dats_length q, r1.length]; exact hl
theorem sE_mk {es : List Expr} {cs : CEs} {pos : Pos} (h : PA X es (tAs X.K (evEs C cs))) (hz : cs.len ≤ 1000) : PE X (.List es pos) (tE X.K (evE C (.mk cs))) := by
  refine PE_wk (pe_lst h) fun σ H Q ⟨Z, μ, ρ, S, rh, re, o⟩ => ?_
  simp only [evE] at o
  refine ⟨Z, μ, ρ, S, rh, re, o.bind fun ds S1 vs μ1 H1 e1 l1 rh1 r1 o1 => ?_⟩
  have hl : vs.length ≤ sizeLine := by rw [← r1.length, evEs_len e1]; exact Nat.le_of_lt (small1000 hz)
  refine ⟨hl, fun p hp => ?_⟩
  have l := later_alloc rh1 hp (.lst ds) (.lst vs)
  refine o1 (.ref p) (μ1 ++ [p]) _ l (rh1.alloc hp ⟨vs, upd_same, by rw [r1.length]; exact hl, RelDs.later l r1⟩) ⟨p, rfl, ?_⟩
  rw [← rh1.len]
  simp

/-! ### operators by values -/
/-- f gives what F gives of the data -/
def DOp (X : Cx) (f : Value → Value → Sem Value) (F : Hs → D → D → Option D) : Prop :=
  OpR X f fun x y H Q => ∃ Z μ S dx dy d, RelH X.K Z μ S H ∧ RelD X.K Z μ S H dx x ∧ RelD X.K Z μ S H dy y ∧ F S dx dy = some d ∧ ∀ v μ' H', Later μ S H μ' S H' → RelH X.K Z μ' S H' → RelD X.K Z μ' S H' d v → Q v H'
theorem OpR_wk {f : Value → Value → Sem Value} {r r' : R2} (h : OpR X f r) (w : ∀ x y H Q, r' x y H Q → r x y H Q) : OpR X f r' := fun pins s σ H x y v u Q I rx ry q => h pins s σ H x y v u Q I rx ry (w x y H Q q)
theorem two {ta tb : TE} {a b : CE} {F : Hs → D → D → Option D} {σ : St} {H : Hp} {Q : VK}
    (o : tE X.K (fun ρ h => (evE C a ρ h).bind fun x h1 => (evE C b ρ h1).bind fun y h2 => R.of (F h2 x y) h2) σ H Q) :
    tOp (fun x y H Q => ∃ Z μ S dx dy d, RelH X.K Z μ S H ∧ RelD X.K Z μ S H dx x ∧ RelD X.K Z μ S H dy y ∧ F S dx dy = some d ∧ ∀ v μ' H', Later μ S H μ' S H' → RelH X.K Z μ' S H' → RelD X.K Z μ' S H' d v → Q v H') (tE X.K (evE C a)) (tE X.K (evE C b)) σ H Q := by
  obtain ⟨Z, μ, ρ, S, rh, re, o⟩ := o
  refine ⟨Z, μ, ρ, S, rh, re, o.bind fun dx S1 x μ1 H1 _ l1 rh1 r1 o1 => ?_⟩
  refine ⟨Z, μ1, ρ, S1, rh1, re.later l1, o1.bind fun dy S2 y μ2 H2 _ l2 rh2 r2 o2 => ?_⟩
  cases q : F S2 dx dy with
  | none => rw [q] at o2; exact o2.elim
  | some d =>
    rw [q] at o2
    exact ⟨Z, μ2, S2, dx, dy, d, rh2, r1.later l2, r2, q, o2⟩
theorem sE_bin {op : Operator} {o : BOp} {a b : Expr} {ca cb : CE} {pos : Pos} (ho : DOp X (binaryOp op) (fun _ x y => binD o x y)) (ha : PE X a (tE X.K (evE C ca))) (hb : PE X b (tE X.K (evE C cb))) : PE X (.BinOp a op b pos) (tE X.K (evE C (.bin o ca cb))) := by
  refine PE_wk (pe_op ho ha hb) fun σ H Q h => two (ta := tE X.K (evE C ca)) (tb := tE X.K (evE C cb)) (F := fun _ x y => binD o x y) ?_
  obtain ⟨Z, μ, ρ, S, rh, re, h⟩ := h
  simp only [evE] at h
  exact ⟨Z, μ, ρ, S, rh, re, h⟩
def cmpF (o : COp) : Hs → D → D → Option D := fun h x y => (cmpD h o x y).map dB
theorem sE_cmp {op : CmpOp} {o : COp} {a b : Expr} {ca cb : CE} {pos : Pos} (ho : DOp X (compareOp op) (cmpF o)) (hm : behindInMarks op b = false) (ha : PE X a (tE X.K (evE C ca))) (hb : PE X b (tE X.K (evE C cb))) : PE X (.Compare a [op] [b] pos) (tE X.K (evE C (.cmp o ca cb))) := by
  refine PE_wk (pe_cmpR ho ha hb hm) fun σ H Q h => two (ta := tE X.K (evE C ca)) (tb := tE X.K (evE C cb)) (F := cmpF o) ?_
  obtain ⟨Z, μ, ρ, S, rh, re, h⟩ := h
  simp only [evE] at h
  exact ⟨Z, μ, ρ, S, rh, re, h⟩
/-! ### tests -/
def evB (C : Calls) (c : CE) : En → Hs → R Bool := fun ρ h => asB (evE C c ρ h)
theorem Out.asB {K : PySem.W.Frag} {Z : Addr → Prop} {μ : List Addr} {S : Hs} {H : Hp} {r : R D} {Q : Bool → Hp → Prop} (o : Out K Z RelB μ S H (asB r) Q) : Out K Z (RelD K Z) μ S H r (fun x H1 => ∃ c, x = .bl c ∧ Q c H1) := by
  refine Out.bind (Rl2 := RelB) (f := fun d h => R.of (asBool d) h) o fun d S1 v μ1 H1 _ l1 rh1 r1 o1 => ?_
  cases d with
  | ref n => exact o1.elim
  | scr ns => exact o1.elim
  | dat p =>
    cases p with
    | bool b =>
      cases r1
      exact ⟨b, rfl, Out.ok (Rl := RelB) o1 rh1 rfl⟩
    | _ => exact o1.elim
theorem tE_of_tT {c : CE} {σ : St} {H : Hp} {Q : Bool → Hp → Prop} (h : tTs X.K (evB C c) σ H Q) : tE X.K (evE C c) σ H (fun x H1 => ∃ c, x = .bl c ∧ Q c H1) := by
  obtain ⟨Z, μ, ρ, S, rh, re, o⟩ := h
  exact ⟨Z, μ, ρ, S, rh, re, Out.asB o⟩
theorem sT_val {e : Expr} {c : CE} (h : PE X e (tE X.K (evE C c))) (he : ∀ whole, isTrue e X.env whole = (do let v ← whole; standAt e.pos; holding [v] (truthy v))) : PT X e (tTs X.K (evB C c)) :=
  PT_wk (pt_val h he) fun σ H Q h => tE_of_tT h
theorem sT_cmp {op : CmpOp} {o : COp} {a b : Expr} {ca cb : CE} {pos : Pos} (ho : DOp X (compareOp op) (cmpF o)) (hm : behindInMarks op b = false) (ha : PE X a (tE X.K (evE C ca))) (hb : PE X b (tE X.K (evE C cb))) : PT X (.Compare a [op] [b] pos) (tTs X.K (evB C (.cmp o ca cb))) := by
  refine PT_wk (pt_cmpR ho ha hb hm) fun σ H Q h => two (ta := tE X.K (evE C ca)) (tb := tE X.K (evE C cb)) (F := cmpF o) ?_
  obtain ⟨Z, μ, ρ, S, rh, re, h⟩ := tE_of_tT h
  simp only [evE] at h
  exact ⟨Z, μ, ρ, S, rh, re, h⟩
theorem sT_not {a : Expr} {ca : CE} {pos : Pos} (ha : PT X a (tTs X.K (evB C ca))) : PT X (.UnaryOp .Not a pos) (tTs X.K (evB C (.nt ca))) := by
  refine PT_wk (pt_not ha) fun σ H Q ⟨Z, μ, ρ, S, rh, re, o⟩ => ?_
  simp only [evB, evE, LC.asB, R.bind_assoc, R.bind_ok, asBool, R.of_some] at o
  refine ⟨Z, μ, ρ, S, rh, re, ?_⟩
  simp only [evB, LC.asB]
  rw [← R.bind_assoc] at o
  exact o.bind (Rl := RelB) fun t S1 v μ1 H1 _ l1 rh1 r1 o1 => by
    cases r1
    exact Out.ok (Rl := RelB) o1 rh1 rfl
theorem sE_not {a : Expr} {ca : CE} {pos : Pos} (ha : PE X a (tE X.K (evE C ca))) : PE X (.UnaryOp .Not a pos) (tE X.K (evE C (.nt ca))) := by
  refine PE_wk (pe_not ha) fun σ H Q ⟨Z, μ, ρ, S, rh, re, o⟩ => ?_
  simp only [evE] at o
  refine ⟨Z, μ, ρ, S, rh, re, Out.asB ?_⟩
  exact o.bind (Rl := RelB) fun t S1 v μ1 H1 _ l1 rh1 r1 o1 => by
    cases r1
    exact o1.ok rh1 (Rp.bl _)
/-! and, or -/
theorem tE_and {a b : CE} {σ : St} {H : Hp} {Q : VK} (h : tE X.K (evE C (.and a b)) σ H Q) : tAndV (tE X.K (evE C a)) (tE X.K (evE C b)) σ H Q := by
  obtain ⟨Z, μ, ρ, S, rh, re, o⟩ := h
  simp only [evE] at o
  refine ⟨Z, μ, ρ, S, rh, re, Out.asB (Q := fun t H1 => if t = true then tE X.K (evE C b) σ H1 Q else Q (.bl false) H1) ?_⟩
  refine o.bind (Rl := RelB) fun t S1 v μ1 H1 _ l1 rh1 r1 o1 => ?_
  cases r1
  cases t with
  | true => simp only [if_true] at o1 ⊢; exact ⟨Z, μ1, ρ, S1, rh1, re.later l1, o1⟩
  | false => simp only [Bool.false_eq_true, if_false] at o1 ⊢; exact o1.ok rh1 (Rp.bl _)
theorem tE_or {a b : CE} {σ : St} {H : Hp} {Q : VK} (h : tE X.K (evE C (.or a b)) σ H Q) : tOrV (tE X.K (evE C a)) (tE X.K (evE C b)) σ H Q := by
  obtain ⟨Z, μ, ρ, S, rh, re, o⟩ := h
  simp only [evE] at o
  refine ⟨Z, μ, ρ, S, rh, re, Out.asB (Q := fun t H1 => if t = true then Q (.bl true) H1 else tE X.K (evE C b) σ H1 Q) ?_⟩
  refine o.bind (Rl := RelB) fun t S1 v μ1 H1 _ l1 rh1 r1 o1 => ?_
  cases r1
  cases t with
  | false => simp only [Bool.false_eq_true, if_false] at o1 ⊢; exact ⟨Z, μ1, ρ, S1, rh1, re.later l1, o1⟩
  | true => simp only [if_true] at o1 ⊢; exact o1.ok rh1 (Rp.bl _)
theorem tT_and {a b : CE} {σ : St} {H : Hp} {Q : Bool → Hp → Prop} (h : tTs X.K (evB C (.and a b)) σ H Q) : tAnd (tTs X.K (evB C a)) (tTs X.K (evB C b)) σ H Q := by
  obtain ⟨Z, μ, ρ, S, rh, re, o⟩ := h
  simp only [evB, evE, LC.asB, R.bind_assoc] at o
  rw [← R.bind_assoc (evE C a ρ S) (fun d h => R.of (asBool d) h)] at o
  refine ⟨Z, μ, ρ, S, rh, re, o.bind (Rl := RelB) fun t S1 v μ1 H1 _ l1 rh1 r1 o1 => ?_⟩
  cases r1
  cases t with
  | true => simp only [if_true] at o1 ⊢; exact ⟨Z, μ1, ρ, S1, rh1, re.later l1, o1⟩
  | false => simp only [Bool.false_eq_true, if_false, R.bind_ok, asBool, R.of_some] at o1 ⊢; exact Out.ok (Rl := RelB) o1 rh1 rfl
theorem tT_or {a b : CE} {σ : St} {H : Hp} {Q : Bool → Hp → Prop} (h : tTs X.K (evB C (.or a b)) σ H Q) : tOr (tTs X.K (evB C a)) (tTs X.K (evB C b)) σ H Q := by
  obtain ⟨Z, μ, ρ, S, rh, re, o⟩ := h
  simp only [evB, evE, LC.asB, R.bind_assoc] at o
  rw [← R.bind_assoc (evE C a ρ S) (fun d h => R.of (asBool d) h)] at o
  refine ⟨Z, μ, ρ, S, rh, re, o.bind (Rl := RelB) fun t S1 v μ1 H1 _ l1 rh1 r1 o1 => ?_⟩
  cases r1
  cases t with
  | false => simp only [Bool.false_eq_true, if_false] at o1 ⊢; exact ⟨Z, μ1, ρ, S1, rh1, re.later l1, o1⟩
  | true => simp only [if_true, R.bind_ok, asBool, R.of_some] at o1 ⊢; exact Out.ok (Rl := RelB) o1 rh1 rfl
theorem sE_ite {c a b : Expr} {cc ca cb : CE} {pos : Pos} (hc : PT X c (tTs X.K (evB C cc))) (ha : PE X a (tE X.K (evE C ca))) (hb : PE X b (tE X.K (evE C cb))) : PE X (.IfExp c a b pos) (tE X.K (evE C (.ite cc ca cb))) := by
  refine PE_wk (pe_ifExp hc ha hb) fun σ H Q ⟨Z, μ, ρ, S, rh, re, o⟩ => ?_
  simp only [evE] at o
  refine ⟨Z, μ, ρ, S, rh, re, o.bind (Rl := RelB) fun t S1 v μ1 H1 _ l1 rh1 r1 o1 => ?_⟩
  cases r1
  cases t with
  | true => simp only [if_true] at o1 ⊢; exact ⟨Z, μ1, ρ, S1, rh1, re.later l1, o1⟩
  | false => simp only [Bool.false_eq_true, if_false] at o1 ⊢; exact ⟨Z, μ1, ρ, S1, rh1, re.later l1, o1⟩
end
end L2.LC

/-! LC: the operators and built-ins on data. -/
namespace L2.LC
open PySem PySem.Spec PyProof.Rows PySem.SeqAt
section
variable {K : PySem.W.Frag} {Z : Addr → Prop} {μ : List Addr} {S : Hs} {H : Hp} {d : D} {v : V}
theorem rp_ints {K : PySem.W.Frag} {H : Hp} {L : Addr → Prop} : ∀ ns : List Int, RpAll K H L (ns.map V.int) (ns.map .int)
  | [] => .nil
  | i :: is => .cons (.int i) (rp_ints is)
theorem rd_lst {ps : List PyData} (rh : RelH K Z μ S H) (r : RelD K Z μ S H d v) (e : rd S d = some (.list ps)) :
    ∃ a vs, v = .ref a ∧ SqL K H a vs ∧ RpAll K H (Lv Z μ S) vs ps ∧ ps.length ≤ sizeLine := by
  cases d with
  | scr ns =>
    obtain ⟨a, rfl, z, h⟩ := r
    simp only [rd, Option.some.injEq, PyData.list.injEq] at e
    subst e
    refine ⟨a, ns.map V.int, rfl, h.elim (fun h => h.sq) .inr, rp_ints ns, by simpa using z⟩
  | dat p =>
    cases e
    cases r with
    | lst h z q => exact ⟨_, _, rfl, h.sq, q, z⟩
  | ref n =>
    obtain ⟨a, rfl, ha⟩ := r
    simp only [rd] at e
    split at e
    · rename_i xs hx
      cases q : dats xs with
      | none => rw [q] at e; cases e
      | some qs =>
        rw [q] at e
        simp at e
        subst e
        obtain ⟨vs, h1, h2, h3⟩ := rh.ob n _ a hx ha
        exact ⟨a, vs, rfl, .inl (.inl h1), RpAll.of_dats h3 q, by rw [dats_length q]; exact h2⟩
    · cases e
theorem rd_dat {p : PyData} (e : rd S d = some p) (h : ∀ ps, p ≠ .list ps) : d = .dat p := by
  cases d with
  | dat q => cases e; rfl
  | scr ns => simp only [rd, Option.some.injEq] at e; exact absurd e.symm (h _)
  | ref n =>
    simp only [rd] at e
    split at e
    · rename_i xs hx
      cases q : dats xs with
      | none => rw [q] at e; cases e
      | some qs => rw [q] at e; simp at e; exact absurd e.symm (h qs)
    · cases e
theorem rd_dp {p : PyData} (rh : RelH K Z μ S H) (r : RelD K Z μ S H d v) (e : rd S d = some p) : Dp K H v p := by
  cases p with
  | list ps =>
    obtain ⟨a, vs, rfl, h1, h2, _⟩ := rd_lst rh r e
    exact .lst h1 h2.dp
  | none => have := rd_dat e (by simp); subst this; exact Rp.dp r
  | bool b => have := rd_dat e (by simp); subst this; exact Rp.dp r
  | int b => have := rd_dat e (by simp); subst this; exact Rp.dp r
  | str b => have := rd_dat e (by simp); subst this; exact Rp.dp r
  | tuple b => have := rd_dat e (by simp); subst this; exact Rp.dp r
  | dict b => have := rd_dat e (by simp); subst this; exact Rp.dp r
theorem rd_tup {ps : List PyData} (r : RelD K Z μ S H d v) (e : rd S d = some (.tuple ps)) :
    ∃ a vs, v = .ref a ∧ FxT K H (Lv Z μ S) a vs ∧ RpAll K H (Lv Z μ S) vs ps ∧ ps.length ≤ sizeLine := by
  have := rd_dat e (by simp)
  subst this
  cases r with
  | tup h z q => exact ⟨_, _, rfl, h, q, z⟩
end
mutual
theorem Dp.plain {K : PySem.W.Frag} {H : Hp} : ∀ {v : V} {p : PyData}, Dp K H v p → p.plain = true
  | _, _, .non => by simp [PyData.plain]
  | _, _, .bl b => by simp [PyData.plain]
  | _, _, .int i => by simp [PyData.plain]
  | _, _, .str x => by simp [PyData.plain]
  | _, _, .lst _ r => by simp [PyData.plain, DpAll.plain r]
  | _, _, .tup _ r => by simp [PyData.plain, DpAll.plain r]
theorem DpAll.plain {K : PySem.W.Frag} {H : Hp} : ∀ {vs : List V} {ps : List PyData}, DpAll K H vs ps → PyData.plainAll ps = true
  | _, _, .nil => by simp [PyData.plainAll]
  | _, _, .cons a b => by simp [PyData.plainAll, Dp.plain a, DpAll.plain b]
end
theorem RpAll.get {K : PySem.W.Frag} {H : Hp} {L : Addr → Prop} : ∀ {vs : List V} {ps : List PyData} {i : Nat} {p : PyData}, RpAll K H L vs ps → ps[i]? = some p → ∃ v, vs[i]? = some v ∧ Rp K H L v p
  | _, _, _, _, .nil, e => by simp at e
  | _, _, 0, _, .cons a b, e => by simp at e; subst e; exact ⟨_, rfl, a⟩
  | _, _, i + 1, _, .cons a b, e => by
    simp only [List.getElem?_cons_succ] at e ⊢
    exact RpAll.get b e
theorem RpAll.append {K : PySem.W.Frag} {H : Hp} {L : Addr → Prop} : ∀ {vs ws : List V} {ps qs : List PyData}, RpAll K H L vs ps → RpAll K H L ws qs → RpAll K H L (vs ++ ws) (ps ++ qs)
  | _, _, _, _, .nil, s => s
  | _, _, _, _, .cons a b, s => .cons a (RpAll.append b s)
theorem RpAll.drop {K : PySem.W.Frag} {H : Hp} {L : Addr → Prop} : ∀ {vs : List V} {ps : List PyData} (n : Nat), RpAll K H L vs ps → RpAll K H L (vs.drop n) (ps.drop n)
  | _, _, 0, r => r
  | _, _, _ + 1, .nil => .nil
  | _, _, n + 1, .cons _ b => RpAll.drop n b
theorem RpAll.take {K : PySem.W.Frag} {H : Hp} {L : Addr → Prop} : ∀ {vs : List V} {ps : List PyData} (n : Nat), RpAll K H L vs ps → RpAll K H L (vs.take n) (ps.take n)
  | _, _, 0, _ => .nil
  | _, _, _ + 1, .nil => .nil
  | _, _, n + 1, .cons a b => .cons a (RpAll.take n b)
theorem RpAll.cut {K : PySem.W.Frag} {H : Hp} {L : Addr → Prop} {vs : List V} {ps : List PyData} (r : RpAll K H L vs ps) (lo hi : Option Int) : RpAll K H L (cutV vs lo hi) (LC.cut ps lo hi) := by
  unfold cutV LC.cut
  rw [r.length]
  exact (r.drop _).take _
theorem cut_length {α : Type} (xs : List α) (lo hi : Option Int) : (LC.cut xs lo hi).length ≤ xs.length := by
  unfold LC.cut
  rw [List.length_take, List.length_drop]
  omega
section
variable {X : Cx}
/-- what the layer's rules want of a result that changes nothing -/
theorem fin0 {K : PySem.W.Frag} {Z : Addr → Prop} {μ : List Addr} {S : Hs} {H : Hp} {d : D} {Q : VK} {v : V} (rh : RelH K Z μ S H) (q : ∀ v μ' H', Later μ S H μ' S H' → RelH K Z μ' S H' → RelD K Z μ' S H' d v → Q v H') (r : RelD K Z μ S H d v) : Q v H := q v μ H (Later.refl _ _ _) rh r
/-! ### == != in < -/
theorem deep_room {k : Nat} {A : Around} {p q : PyData} (hr : Room k A) (h : deep p q = true) : A.units + min p.depth q.depth < cLine := by
  have h1 := of_decide_eq_true h
  have h2 := hr.un
  omega
theorem depth_all (xs : List PyData) : (PyData.tuple xs).depth = PyData.depthAll xs + 1 ∧ (PyData.list xs).depth = PyData.depthAll xs + 1 := by
  constructor <;> simp [PyData.depth]
theorem op_cmp {k : Nat} (hr : Room k X.A) {op : CmpOp} {o : COp} (ho : (op, o) ∈ [(CmpOp.Eq, COp.eq), (.NotEq, .ne), (.In, .isin), (.NotIn, .notin), (.Lt, .lt), (.LtE, .le), (.Gt, .gt), (.GtE, .ge), (.Is, .isN), (.IsNot, .notN)]) : DOp X (compareOp op) (cmpF o) := by
  intro pins s σ H x y v u Q I rx ry h
  obtain ⟨Z, μ, S, dx, dy, d, rh, r1, r2, e, q⟩ := h
  unfold cmpF at e
  obtain ⟨b, e9, e8⟩ := Option.map_eq_some_iff.mp e
  subst e8
  clear e
  have e := e9
  clear e9
  have fin : EP X pins σ Q (.bool b) s := ⟨.bl b, H, I, rfl, fin0 rh q (Rp.bl b)⟩
  -- is None
  have isn : ∀ {d : D} {v : V}, RelD X.K Z μ S H d v → decide (v = V.non) = isNone d := fun {d v} r => by
    cases d with
    | ref n => obtain ⟨a, rfl, _⟩ := r; rfl
    | scr ns => obtain ⟨a, rfl, _⟩ := r; rfl
    | dat p => cases r <;> rfl
  have data : ∀ {o : COp} {p q : PyData}, rd S dx = some p → rd S dy = some q → ∃ as bs, Reads s.heap v p as ∧ Reads s.heap u q bs ∧ p.plain = true ∧ q.plain = true := fun {o p q} e1 e2 => by
    have d1 := rd_dp rh r1 e1
    have d2 := rd_dp rh r2 e2
    obtain ⟨as, h1⟩ := Dp.reads I p x v d1 rx
    obtain ⟨bs, h2⟩ := Dp.reads I q y u d2 ry
    exact ⟨as, bs, h1, h2, Dp.plain d1, Dp.plain d2⟩
  simp only [List.mem_cons, Prod.mk.injEq, List.not_mem_nil, or_false] at ho
  rcases ho with ⟨rfl, rfl⟩ | ⟨rfl, rfl⟩ | ⟨rfl, rfl⟩ | ⟨rfl, rfl⟩ | ⟨rfl, rfl⟩ | ⟨rfl, rfl⟩ | ⟨rfl, rfl⟩ | ⟨rfl, rfl⟩ | ⟨rfl, rfl⟩ | ⟨rfl, rfl⟩
  · -- ==
    simp only [cmpD] at e
    split at e
    · rename_i p q e1 e2
      simp only [cmpP] at e
      split at e
      · rename_i hd
        cases e
        obtain ⟨as, bs, h1, h2, h3, h4⟩ := data (o := .eq) e1 e2
        exact eq_plain h1 h2 h3 h4 (deep_room hr hd) fin
      · cases e
    · cases e
  · -- !=
    simp only [cmpD] at e
    split at e
    · rename_i p q e1 e2
      simp only [cmpP] at e
      split at e
      · rename_i hd
        cases e
        obtain ⟨as, bs, h1, h2, h3, h4⟩ := data (o := .ne) e1 e2
        exact ne_plain h1 h2 h3 h4 (deep_room hr hd) fin
      · cases e
    · cases e
  · -- in
    simp only [cmpD] at e
    split at e
    · rename_i p q e1 e2
      obtain ⟨as, bs, h1, h2, h3, h4⟩ := data (o := .eq) e1 e2
      cases q with
      | tuple xs =>
        simp only [cmpP] at e
        split at e
        · rename_i hd
          cases e
          refine in_tuple_data h2 h1 (by simpa [PyData.plain] using h4) h3 ?_ fin
          have := deep_room hr hd
          rw [(depth_all xs).1] at this
          have h5 := hr.un
          have h6 := of_decide_eq_true hd
          rw [(depth_all xs).1] at h6
          omega
        · cases e
      | list xs =>
        simp only [cmpP] at e
        split at e
        · rename_i hd
          cases e
          refine in_list_data h2 h1 (by simpa [PyData.plain] using h4) h3 ?_ fin
          have h5 := hr.un
          have h6 := of_decide_eq_true hd
          rw [(depth_all xs).2] at h6
          omega
        · cases e
      | _ => simp [cmpP, ordP] at e
    · cases e
  · -- not in
    simp only [cmpD] at e
    split at e
    · rename_i p q e1 e2
      obtain ⟨as, bs, h1, h2, h3, h4⟩ := data (o := .eq) e1 e2
      cases q with
      | tuple xs =>
        simp only [cmpP] at e
        split at e
        · rename_i hd
          cases e
          refine notIn_tuple_data h2 h1 (by simpa [PyData.plain] using h4) h3 ?_ fin
          have h5 := hr.un
          have h6 := of_decide_eq_true hd
          rw [(depth_all xs).1] at h6
          omega
        · cases e
      | list xs =>
        simp only [cmpP] at e
        split at e
        · rename_i hd
          cases e
          refine notIn_list_data h2 h1 (by simpa [PyData.plain] using h4) h3 ?_ fin
          have h5 := hr.un
          have h6 := of_decide_eq_true hd
          rw [(depth_all xs).2] at h6
          omega
        · cases e
      | _ => simp [cmpP, ordP] at e
    · cases e
  · -- <
    simp only [cmpD] at e
    split at e
    · rename_i p q e1 e2
      obtain ⟨as, bs, h1, h2, h3, h4⟩ := data (o := .eq) e1 e2
      have gen : ordP .lt p q = some b → wpAny (model X.prog X.w) X.A (compareOp .Lt v u) (EP X pins σ Q) X.xe s := fun e => by
        simp only [ordP] at e
        split at e
        · rename_i hd
          rw [Bool.and_eq_true] at hd
          split at e
          · cases e
          · rename_i hn
            cases e
            exact PySem.W.lt_data h1 h2 hd.1 (fun z => hn z) (deep_room hr hd.2) fin
        · cases e
      cases p with
      | int i =>
        cases q with
        | int j =>
          simp only [cmpP] at e
          cases e
          cases h1
          cases h2
          exact lt_int fin
        | _ => exact gen e
      | _ => exact gen e
    · cases e
  · -- <=
    simp only [cmpD] at e
    split at e
    · rename_i p q e1 e2
      obtain ⟨as, bs, h1, h2, h3, h4⟩ := data (o := .eq) e1 e2
      cases p with
      | int i =>
        cases q with
        | int j =>
          simp only [cmpP] at e
          cases e
          cases h1
          cases h2
          exact le_int fin
        | _ => simp [cmpP, ordP] at e
      | _ => simp [cmpP, ordP] at e
    · cases e
  · -- >
    simp only [cmpD] at e
    split at e
    · rename_i p q e1 e2
      obtain ⟨as, bs, h1, h2, h3, h4⟩ := data (o := .eq) e1 e2
      cases p with
      | int i =>
        cases q with
        | int j =>
          simp only [cmpP] at e
          cases e
          cases h1
          cases h2
          exact gt_int fin
        | _ => simp [cmpP, ordP] at e
      | _ => simp [cmpP, ordP] at e
    · cases e
  · -- >=
    simp only [cmpD] at e
    split at e
    · rename_i p q e1 e2
      obtain ⟨as, bs, h1, h2, h3, h4⟩ := data (o := .eq) e1 e2
      cases p with
      | int i =>
        cases q with
        | int j =>
          simp only [cmpP] at e
          cases e
          cases h1
          cases h2
          exact ge_int fin
        | _ => simp [cmpP, ordP] at e
      | _ => simp [cmpP, ordP] at e
    · cases e
  · -- is None
    simp only [cmpD] at e
    split at e
    · rename_i hn
      rw [← isn r2] at hn
      cases e
      refine op_isN pins s σ H x y v u Q I rx ry ⟨of_decide_eq_true hn, ?_⟩
      rw [isn r1]
      exact fin0 rh q (Rp.bl _)
    · cases e
  · -- is not None
    simp only [cmpD] at e
    split at e
    · rename_i hn
      rw [← isn r2] at hn
      cases e
      refine op_notN pins s σ H x y v u Q I rx ry ⟨of_decide_eq_true hn, ?_⟩
      rw [isn r1]
      exact fin0 rh q (Rp.bl _)
    · cases e
end
end L2.LC

/-! LC: operators and built-ins on data, on. -/
namespace L2.LC
open PySem PySem.Spec PyProof.Rows PySem.SeqAt
section
variable {X : Cx} {C : Calls}
/-- list + list, of lists that are read -/
theorem op_catR : OpR X (binaryOp .Add) (fun x y H Q => ∃ l b xs zs, x = .ref l ∧ y = .ref b ∧ Rd H l (.lst xs) ∧ Rd H b (.lst zs) ∧ xs.length + zs.length ≤ sizeLine ∧ ∀ p, H p = none → Q (.ref p) (upd H p (.lst (xs ++ zs)))) := by
  intro pins s σ H x y v u Q I rx ry h
  obtain ⟨l, b, xs, zs, rfl, rfl, hH, hB, hz, q⟩ := h
  cases rx
  cases ry
  obtain ⟨z, its, n, r, e⟩ := hH.ok I.hok
  obtain ⟨z2, its2, n2, r2, e2⟩ := hB.ok I.hok
  have hl := r.length
  have hl2 := r2.length
  refine PySem.P.add_list e e2 ?_ (by rw [List.size_toArray, List.size_toArray]; omega)
  have ea : its.toArray ++ its2.toArray = (its ++ its2).toArray := by simp
  rw [ea]
  exact ⟨.ref _, _, I.lnew (t' := s.toks) (r.append r2) (by rw [List.length_append]; omega), rfl, q _ I.fresh⟩
theorem bin_ints {op : Operator} {o : BOp} {C : Int → Int → Prop} {g : Int → Int → Int} (rule : OpR X (binaryOp op) (rI C fun i j => .int (g i j)))
    (hb : ∀ p q d, binP o p q = some d → ∃ i j, p = .int i ∧ q = .int j ∧ C i j ∧ d = .int (g i j)) : DOp X (binaryOp op) (fun _ x y => binD o x y) := by
  refine OpR_wk rule fun x y H Q ⟨Z, μ, S, dx, dy, d, rh, r1, r2, e, q⟩ => ?_
  cases dx with
  | ref n => simp [binD] at e
  | scr ns => simp [binD] at e
  | dat p1 =>
    cases dy with
    | ref n => simp [binD] at e
    | scr ns => simp [binD] at e
    | dat p2 =>
      simp only [binD] at e
      obtain ⟨z, e1, rfl⟩ := Option.map_eq_some_iff.mp e
      obtain ⟨i, j, rfl, rfl, hc, rfl⟩ := hb _ _ _ e1
      cases r1
      cases r2
      exact ⟨i, j, rfl, rfl, hc, fin0 rh q (Rp.int _)⟩
theorem rI0_rI {g : Int → Int → V} {f : Value → Value → Sem Value} (h : OpR X f (rI0 g)) : OpR X f (rI (fun _ _ => True) g) := OpR_wk h fun x y H Q ⟨i, j, a, b, _, q⟩ => ⟨i, j, a, b, q⟩
theorem bin_sub : DOp X (binaryOp .Sub) (fun _ x y => binD .sub x y) := bin_ints (rI0_rI op_sub) fun p q d e => by
  cases p <;> cases q <;> simp [binP] at e
  exact ⟨_, _, rfl, rfl, trivial, e.symm⟩
theorem bin_mod : DOp X (binaryOp .Mod) (fun _ x y => binD .mod x y) := bin_ints op_mod fun p q d e => by
  cases p <;> cases q <;> simp [binP] at e
  exact ⟨_, _, rfl, rfl, e.1, e.2.symm⟩
theorem bin_fdiv : DOp X (binaryOp .FloorDiv) (fun _ x y => binD .fdiv x y) := bin_ints op_fdiv fun p q d e => by
  cases p <;> cases q <;> simp [binP] at e
  exact ⟨_, _, rfl, rfl, e.1, e.2.symm⟩
theorem bin_pow : DOp X (binaryOp .Pow) (fun _ x y => binD .pow x y) := bin_ints op_pow fun p q d e => by
  cases p with
  | int i =>
    cases q with
    | int j =>
      simp only [binP] at e
      split at e
      · rename_i h
        cases e
        exact ⟨_, _, rfl, rfl, h, rfl⟩
      · cases e
    | _ => simp [binP] at e
  | _ => cases q <;> simp [binP] at e
theorem small_ok {i : Int} (h : small i = true) : -(2 ^ 64) < i ∧ i < 2 ^ 64 := by
  unfold small at h
  rw [Bool.and_eq_true] at h
  exact ⟨of_decide_eq_true h.1, of_decide_eq_true h.2⟩
theorem tuple_mul1 (l : Addr) (items : Array Value) (n : Nat) (dd : Option Addr) (sl : Array (Option Value)) (u : Tok) :
    Meets (Builtin.«tuple.__mul__» ⟨[.ref l, .int 1 u], []⟩) (fun _ R s => s.heap.get? l = some { cls := .type "tuple", dict := dd, data := .seq items n, slots := sl } ∧ R (.ok (.ret (Value.ref l))) s) :=
  .of_wp fun prog w A R s h => by
    obtain ⟨hp, g, d, tk, os⟩ := s
    obtain ⟨hl, h⟩ := h
    have f1 := AutoSeq1.idx_int
    wp_walk using wpAny_loadPart' hl
    have c1 : (items.isEmpty || (1 : Int) == 1) = true := by simp
    repeat (first
      | (refine wpAny_ite_true (decide_eq_true (by simp)) ?_; wp_walk using wpAny_loadPart' hl)
      | (refine wpAny_ite_false (decide_eq_false (by decide)) ?_; wp_walk using wpAny_loadPart' hl))
    exact ⟨_, rfl, h⟩
theorem tuple_mul0 (l : Addr) (items : Array Value) (n : Nat) (dd : Option Addr) (sl : Array (Option Value)) (u : Tok) (c1 : items.isEmpty = false) :
    Meets (Builtin.«tuple.__mul__» ⟨[.ref l, .int 0 u], []⟩) (fun _ R s => s.heap.get? l = some { cls := .type "tuple", dict := dd, data := .seq items n, slots := sl } ∧
      R (.ok (.ret (Value.ref s.heap.objs.size))) { s with heap := s.heap.push { cls := Value.type "tuple", data := Data.seq #[] }, toks := s.toks }) :=
  .of_wp fun prog w A R s h => by
    obtain ⟨hp, g, d, tk, os⟩ := s
    obtain ⟨hl, h⟩ := h
    have f1 := AutoSeq1.idx_int
    wp_walk using wpAny_loadPart' hl
    exact ⟨_, rfl, h⟩
theorem op_rep1 : OpR X (binaryOp .Mult) (fun x y H Q => ∃ l xs, x = .ref l ∧ y = .int 1 ∧ SqT X.K H l xs ∧ Q (.ref l) H) := by
  intro pins s σ H x y v u Q I rx ry h
  obtain ⟨l, xs, rfl, rfl, hT, q⟩ := h
  cases rx
  obtain ⟨t, rfl⟩ := ry
  obtain ⟨its, r, ⟨⟨cls, dd, data, sl⟩, ho, hc, n, hd⟩, hs⟩ := I.tuple hT
  simp only at hc hd
  subst hc hd
  exact wpAny_binaryOp_repeat_ref (T := "tuple") (U := "int") (by decide) ⟨_, ho, rfl⟩ (fun s' => typeIs_int s' 1 t) noFill_tuple_mul F.fills_int_mul F.slot_int_rmul repeat_tuple F.slot_int_index.lookup
    (call_meets F.slot_int_rmul (typeIs_int s 1 t) F.entry_int_rmul (F.args_int_rmul_2 _ _) (int_rmul_tuple 1 t l its.toArray n dd sl)
      ⟨ho, rfl, ⟨_, ho, rfl⟩, call_meets F.slot_tuple_mul ⟨_, ho, rfl⟩ F.entry_tuple_mul (F.args_tuple_mul_2 _ _) (tuple_mul1 l its.toArray n dd sl t) ⟨ho, ⟨.ref l, H, I, rfl, q⟩⟩⟩)
theorem op_rep0 : OpR X (binaryOp .Mult) (fun x y H Q => ∃ l xs, x = .ref l ∧ y = .int 0 ∧ SqT X.K H l xs ∧ xs ≠ [] ∧ ∀ p, H p = none → Q (.ref p) (upd H p (.tup []))) := by
  intro pins s σ H x y v u Q I rx ry h
  obtain ⟨l, xs, rfl, rfl, hT, hne, q⟩ := h
  cases rx
  obtain ⟨t, rfl⟩ := ry
  obtain ⟨its, r, ⟨⟨cls, dd, data, sl⟩, ho, hc, n, hd⟩, hs⟩ := I.tuple hT
  simp only at hc hd
  subst hc hd
  have hi : its.toArray.isEmpty = false := by
    cases r with
    | nil => exact absurd rfl hne
    | cons a b => rfl
  exact wpAny_binaryOp_repeat_ref (T := "tuple") (U := "int") (by decide) ⟨_, ho, rfl⟩ (fun s' => typeIs_int s' 0 t) noFill_tuple_mul F.fills_int_mul F.slot_int_rmul repeat_tuple F.slot_int_index.lookup
    (call_meets F.slot_int_rmul (typeIs_int s 0 t) F.entry_int_rmul (F.args_int_rmul_2 _ _) (int_rmul_tuple 0 t l its.toArray n dd sl)
      ⟨ho, rfl, ⟨_, ho, rfl⟩, call_meets F.slot_tuple_mul ⟨_, ho, rfl⟩ F.entry_tuple_mul (F.args_tuple_mul_2 _ _) (tuple_mul0 l its.toArray n dd sl t hi)
        ⟨ho, ⟨.ref s.heap.objs.size, _, I.laid (t' := s.toks) (o := .tup []) (fun b ob q => Heap.get?_push_of_some _ q) (Nat.le_refl _) ⟨by decide, [], .nil, IsTup.new _ _⟩, rfl, q _ (I.hok.fresh (Nat.le_refl _))⟩⟩⟩)
theorem RpAll.nil_iff {K : PySem.W.Frag} {H : Hp} {L : Addr → Prop} {vs : List V} {ps : List PyData} (r : RpAll K H L vs ps) : vs = [] ↔ ps = [] := by
  cases r <;> simp
theorem RpAll.rep {K : PySem.W.Frag} {H : Hp} {L : Addr → Prop} {vs : List V} {ps : List PyData} (r : RpAll K H L vs ps) : ∀ n : Nat, RpAll K H L (List.replicate n vs).flatten (List.replicate n ps).flatten
  | 0 => .nil
  | n + 1 => by
    rw [List.replicate_succ, List.replicate_succ, List.flatten_cons, List.flatten_cons]
    exact r.append (RpAll.rep r n)
theorem bin_mul : DOp X (binaryOp .Mult) (fun _ x y => binD .mul x y) := by
  intro pins s σ H x y v u Q I rx ry h
  obtain ⟨Z, μ, S, dx, dy, d, rh, r1, r2, e, q⟩ := h
  cases dx with
  | ref n => simp [binD] at e
  | scr ns => simp [binD] at e
  | dat p1 =>
    cases dy with
    | ref n => simp [binD] at e
    | scr ns => simp [binD] at e
    | dat p2 =>
      simp only [binD] at e
      obtain ⟨z, e1, e2⟩ := Option.map_eq_some_iff.mp e
      subst e2
      clear e
      cases p1 with
      | int i =>
        cases p2 with
        | int j =>
          simp only [binP] at e1
          split at e1
          · rename_i h
            cases e1
            cases r1
            cases r2
            refine op_mul pins s σ H _ _ v u Q I rx ry ⟨i, j, rfl, rfl, ?_, fin0 rh q (Rp.int _)⟩
            rw [Bool.or_eq_true] at h
            rcases h with h | h
            · exact .inl (small_ok h)
            · exact .inr (small_ok h)
          · cases e1
        | _ => simp [binP] at e1
      | tuple xs =>
        cases p2 with
        | int j =>
          simp only [binP] at e1
          cases r2
          cases r1 with
          | tup h1 z1 q1 =>
            rename_i a vs
            split at e1
            · rename_i hj
              cases e1
              subst hj
              exact op_rep1 pins s σ H _ _ v u Q I rx ry ⟨a, vs, rfl, rfl, h1.sq, fin0 rh q (Rp.tup h1 z1 q1)⟩
            · split at e1
              · rename_i hj
                cases e1
                obtain ⟨rfl, hne⟩ := hj
                exact op_rep0 pins s σ H _ _ v u Q I rx ry ⟨a, vs, rfl, rfl, h1.sq, fun e => hne (q1.nil_iff.mp e), fun p hp => q _ μ _ (later_fresh hp _) (rh.fresh hp _) (rp_tup rh hp .nil (by decide))⟩
              · split at e1
                · rename_i hj
                  cases e1
                  obtain ⟨g1, g2, g3, g4⟩ := hj
                  refine op_repT pins s σ H _ _ v u Q I rx ry ⟨a, j, vs, rfl, rfl, h1.sq, fun e => g4 (q1.nil_iff.mp e), g1, g2, by rw [q1.length]; exact g3, fun p hp => q _ μ _ (later_fresh hp _) (rh.fresh hp _) (rp_tup rh hp (q1.rep _) ?_)⟩
                  rw [PyProof.Rows.lm_len_rep_flat, sizeLine_eq]
                  have a1 : j.toNat * xs.length ≤ 1000 * 1000 := Nat.mul_le_mul (by omega) g3
                  omega
                · cases e1
        | _ => simp [binP] at e1
      | _ => cases p2 <;> simp [binP] at e1
theorem bin_add : DOp X (binaryOp .Add) (fun _ x y => binD .add x y) := by
  intro pins s σ H x y v u Q I rx ry h
  obtain ⟨Z, μ, S, dx, dy, d, rh, r1, r2, e, q⟩ := h
  cases dx with
  | ref n => simp [binD] at e
  | scr ns => simp [binD] at e
  | dat p1 =>
    cases dy with
    | ref n => simp [binD] at e
    | scr ns => simp [binD] at e
    | dat p2 =>
      simp only [binD] at e
      obtain ⟨z, e1, e2⟩ := Option.map_eq_some_iff.mp e
      subst e2
      clear e
      cases p1 with
      | int i =>
        cases p2 with
        | int j =>
          simp only [binP] at e1
          cases e1
          cases r1
          cases r2
          exact op_add pins s σ H _ _ v u Q I rx ry ⟨i, j, rfl, rfl, fin0 rh q (Rp.int _)⟩
        | _ => simp [binP] at e1
      | tuple xs =>
        cases p2 with
        | tuple ys =>
          simp only [binP] at e1
          split at e1
          · rename_i hz
            cases e1
            cases r1 with
            | tup h1 z1 q1 =>
              cases r2 with
              | tup h2 z2 q2 =>
                rename_i a vs b ws
                refine op_catA pins s σ H _ _ v u Q I rx ry ⟨a, b, vs, ws, rfl, rfl, h1.sq, h2.sq, by rw [q1.length, q2.length]; exact hz, fun e0 => ?_, fun _ e0 => ?_, fun _ _ p hp => ?_⟩
                · have e3 := q1.nil_iff.mp e0
                  subst e3
                  exact fin0 rh q (Rp.tup h2 z2 q2)
                · have e3 := q2.nil_iff.mp e0
                  subst e3
                  refine fin0 rh q ?_
                  rw [List.append_nil]
                  exact Rp.tup h1 z1 q1
                · exact q _ μ _ (later_fresh hp _) (rh.fresh hp _) (rp_tup rh hp (q1.append q2) (by rw [List.length_append]; exact hz))
          · cases e1
        | _ => simp [binP] at e1
      | list xs =>
        cases p2 with
        | list ys =>
          simp only [binP] at e1
          split at e1
          · rename_i hz
            cases e1
            cases r1 with
            | lst h1 z1 q1 =>
              cases r2 with
              | lst h2 z2 q2 =>
                rename_i a vs b ws
                refine op_catR pins s σ H _ _ v u Q I rx ry ⟨a, b, vs, ws, rfl, rfl, h1.1, h2.1, by rw [q1.length, q2.length]; exact hz, fun p hp => ?_⟩
                exact q _ μ _ (later_fresh hp _) (rh.fresh hp _) (rp_lst rh hp (q1.append q2) (by rw [List.length_append]; exact hz))
          · cases e1
        | _ => simp [binP] at e1
      | _ => cases p2 <;> simp [binP] at e1
theorem sE_neg {a : Expr} {ca : CE} {pos : Pos} (ha : PE X a (tE X.K (evE C ca))) : PE X (.UnaryOp .USub a pos) (tE X.K (evE C (.neg ca))) := by
  refine PE_wk (pe_un un_neg ha) fun σ H Q ⟨Z, μ, ρ, S, rh, re, o⟩ => ?_
  simp only [evE] at o
  refine ⟨Z, μ, ρ, S, rh, re, o.bind fun d S1 v μ1 H1 _ l1 rh1 r1 o1 => ?_⟩
  split at o1
  · cases r1
    exact ⟨_, rfl, o1.ok rh1 (Rp.int _)⟩
  · exact o1.elim
/-! ### chains of two comparisons -/
theorem chain_rd {o o' : COp} {a b c : CE} {σ : St} {H : Hp} {Q : VK} (h : tE X.K (evE C (.chn o o' a b c)) σ H Q) :
    tChain (fun x y H Q => ∃ Z μ S dx dy d, RelH X.K Z μ S H ∧ RelD X.K Z μ S H dx x ∧ RelD X.K Z μ S H dy y ∧ cmpF o S dx dy = some d ∧ ∀ v μ' H', Later μ S H μ' S H' → RelH X.K Z μ' S H' → RelD X.K Z μ' S H' d v → Q v H')
      (fun x y H Q => ∃ Z μ S dx dy d, RelH X.K Z μ S H ∧ RelD X.K Z μ S H dx x ∧ RelD X.K Z μ S H dy y ∧ cmpF o' S dx dy = some d ∧ ∀ v μ' H', Later μ S H μ' S H' → RelH X.K Z μ' S H' → RelD X.K Z μ' S H' d v → Q v H')
      (tE X.K (evE C a)) (tE X.K (evE C b)) (tE X.K (evE C c)) σ H Q := by
  obtain ⟨Z, μ, ρ, S, rh, re, o⟩ := h
  simp only [evE] at o
  refine ⟨Z, μ, ρ, S, rh, re, o.bind fun dx S1 x μ1 H1 _ l1 rh1 r1 o1 => ?_⟩
  refine ⟨Z, μ1, ρ, S1, rh1, re.later l1, o1.bind fun dy S2 y μ2 H2 _ l2 rh2 r2 o2 => ?_⟩
  split at o2
  · rename_i e
    refine ⟨Z, μ2, S2, dx, dy, dB true, rh2, r1.later l2, r2, by simp [cmpF, e], fun v μ3 H3 l3 rh3 rv => ?_⟩
    cases rv
    refine ⟨true, rfl, ?_⟩
    simp only [if_true]
    refine ⟨Z, μ3, ρ, S2, rh3, ((re.later l1).later l2).later l3, (o2.later l3).bind fun dz S4 z μ4 H4 _ l4 rh4 r4 o4 => ?_⟩
    cases q : cmpD S4 o' dy dz with
    | none => rw [q] at o4; exact o4.elim
    | some t =>
      rw [q] at o4
      exact ⟨Z, μ4, S4, dy, dz, dB t, rh4, (r2.later l3).later l4, r4, by simp [cmpF, q], o4⟩
  · rename_i e
    refine ⟨Z, μ2, S2, dx, dy, dB false, rh2, r1.later l2, r2, by simp [cmpF, e], fun v μ3 H3 l3 rh3 rv => ?_⟩
    cases rv
    refine ⟨false, rfl, ?_⟩
    simp only [Bool.false_eq_true, if_false]
    exact o2 _ μ3 H3 l3 rh3 (Rp.bl _)
  · exact o2.elim
theorem sE_chn {op op' : CmpOp} {o o' : COp} {a b c : Expr} {ca cb cc : CE} {pos : Pos} (ho : DOp X (compareOp op) (cmpF o)) (ho' : DOp X (compareOp op') (cmpF o')) (hm : lastMarks [op, op'] [b, c] = false) (ha : PE X a (tE X.K (evE C ca))) (hb : PE X b (tE X.K (evE C cb))) (hc : PE X c (tE X.K (evE C cc))) :
    PE X (.Compare a [op, op'] [b, c] pos) (tE X.K (evE C (.chn o o' ca cb cc))) := PE_wk (pe_chain ho ho' ha hb hc hm) fun σ H Q h => chain_rd h
theorem sT_chn {op op' : CmpOp} {o o' : COp} {a b c : Expr} {ca cb cc : CE} {pos : Pos} (ho : DOp X (compareOp op) (cmpF o)) (ho' : DOp X (compareOp op') (cmpF o')) (hm : lastMarks [op, op'] [b, c] = false) (ha : PE X a (tE X.K (evE C ca))) (hb : PE X b (tE X.K (evE C cb))) (hc : PE X c (tE X.K (evE C cc))) :
    PT X (.Compare a [op, op'] [b, c] pos) (tTs X.K (evB C (.chn o o' ca cb cc))) := PT_wk (pt_chain ho ho' ha hb hc hm) fun σ H Q h => chain_rd (tE_of_tT h)

/-! ### subscripts, slices -/
theorem RpAll.atI {K : PySem.W.Frag} {H : Hp} {L : Addr → Prop} {vs : List V} {ps : List PyData} {i : Int} {p : PyData} (r : RpAll K H L vs ps) (e : L2.atI ps i = some p) : ∃ v, L2.atI vs i = some v ∧ Rp K H L v p := by
  unfold L2.atI at e ⊢
  rw [r.length]
  cases q : ixN ps.length i with
  | none => rw [q] at e; cases e
  | some j =>
    rw [q] at e
    exact r.get e
theorem sE_idx {a b : Expr} {ca cb : CE} {pos : Pos} (hs : PlainIx b) (ha : PE X a (tE X.K (evE C ca))) (hb : PE X b (tE X.K (evE C cb))) : PE X (.Subscript a b pos) (tE X.K (evE C (.idx ca cb))) := by
  refine PE_wk (pe_ix ix_seq ha hb hs) fun σ H Q ⟨Z, μ, ρ, S, rh, re, o⟩ => ?_
  simp only [evE] at o
  refine ⟨Z, μ, ρ, S, rh, re, o.bind fun dx S1 x μ1 H1 _ l1 rh1 r1 o1 => ?_⟩
  refine ⟨Z, μ1, ρ, S1, rh1, re.later l1, o1.bind fun dy S2 y μ2 H2 _ l2 rh2 r2 o2 => ?_⟩
  have r1' := r1.later l2
  split at o2
  · rename_i p q e hx0
    cases e3 : idxP p q with
    | none => rw [e3] at o2; exact o2.elim
    | some z =>
      rw [e3] at o2
      cases p with
      | list xs =>
        cases q with
        | int i =>
          obtain ⟨a, vs, rfl, h1, h2, _⟩ := rd_lst rh2 r1' e
          cases r2
          obtain ⟨v, h3, h4⟩ := h2.atI e3
          exact .inl ⟨a, vs, i, v, rfl, rfl, h1, h3, o2.ok rh2 h4⟩
        | _ => simp [idxP] at e3
      | tuple xs =>
        cases q with
        | int i =>
          obtain ⟨a, vs, rfl, h1, h2, _⟩ := rd_tup r1' e
          cases r2
          obtain ⟨v, h3, h4⟩ := h2.atI e3
          exact .inr (.inl ⟨a, vs, i, v, rfl, rfl, h1.sq, h3, o2.ok rh2 h4⟩)
        | _ => simp [idxP] at e3
      | _ => cases q <;> simp [idxP] at e3
  · exact o2.elim
theorem SlR_wk {r r' : V → Option Int → Option Int → Hp → VK → Prop} (h : SlR X r) (w : ∀ x lo hi H Q, r' x lo hi H Q → r x lo hi H Q) : SlR X r' :=
  fun pins s σ H x v vl vu lo hi sl Q I rx hs pl pu q => h pins s σ H x v vl vu lo hi sl Q I rx hs pl pu (w _ _ _ _ _ q)
def tO (K : PySem.W.Frag) (m : En → Hs → R (Option Int)) : St → Hp → (Option Int → Hp → Prop) → Prop := fun σ H Q => ∃ Z μ ρ S, RelH K Z μ S H ∧ RelE K Z μ S H ρ σ ∧ Out K Z (fun _ _ _ a b => a = b) μ S H (m ρ S) Q
theorem PO_wk {e : Option Expr} {t t' : St → Hp → (Option Int → Hp → Prop) → Prop} (h : PO X e t) (w : ∀ σ H Q, t' σ H Q → t σ H Q) : PO X e t' := ⟨fun pins s σ H Q I hw => h.run pins s σ H Q I (w σ H Q hw)⟩
theorem sO_none : PO X none (tO X.K (evO C .none)) := PO_wk po_none fun σ H Q ⟨Z, μ, ρ, S, rh, re, o⟩ => Out.ok (Rl := fun _ _ _ a b => a = b) o rh rfl
theorem sO_some {e : Expr} {c : CE} (h : PE X e (tE X.K (evE C c))) : PO X (some e) (tO X.K (evO C (.some c))) := by
  refine PO_wk (po_some h) fun σ H Q ⟨Z, μ, ρ, S, rh, re, o⟩ => ?_
  simp only [evO] at o
  refine ⟨Z, μ, ρ, S, rh, re, Out.bind (Rl2 := fun _ _ _ a b => a = b) o fun d S1 v μ1 H1 _ l1 rh1 r1 o1 => ?_⟩
  split at o1
  · cases r1
    exact ⟨_, rfl, Out.ok (Rl := fun _ _ _ a b => a = b) o1 rh1 rfl⟩
  · exact o1.elim
theorem sE_slc {a : Expr} {lo hi : Option Expr} {ca : CE} {cl ch : CO} {p2 pos : Pos} (ha : PE X a (tE X.K (evE C ca))) (hl : PO X lo (tO X.K (evO C cl))) (hh : PO X hi (tO X.K (evO C ch))) : PE X (.Subscript a (.Slice lo hi none p2) pos) (tE X.K (evE C (.slc ca cl ch))) := by
  refine PE_wk (pe_slice (sl_list.or sl_tupA) ha hl hh) fun σ H Q ⟨Z, μ, ρ, S, rh, re, o⟩ => ?_
  simp only [evE] at o
  refine ⟨Z, μ, ρ, S, rh, re, o.bind fun dx S1 x μ1 H1 _ l1 rh1 r1 o1 => ?_⟩
  refine ⟨Z, μ1, ρ, S1, rh1, re.later l1, o1.bind (Rl := fun _ _ _ a b => a = b) fun i S2 i' μ2 H2 _ l2 rh2 r2 o2 => ?_⟩
  refine ⟨Z, μ2, ρ, S2, rh2, (re.later l1).later l2, o2.bind (Rl := fun _ _ _ a b => a = b) fun j S3 j' μ3 H3 _ l3 rh3 r3 o3 => ?_⟩
  subst r2 r3
  have r1' := (r1.later l2).later l3
  cases dx with
  | ref n => exact o3.elim
  | scr ns => exact o3.elim
  | dat p =>
    cases p with
    | list xs =>
      cases r1' with
      | lst h1 z1 q1 =>
        rename_i b vs
        refine .inl ⟨b, vs, rfl, h1.sq, fun p hp => ?_⟩
        exact o3 _ μ3 _ (later_fresh hp _) (rh3.fresh hp _) (rp_lst rh3 hp (q1.cut i j) (Nat.le_trans (cut_length xs i j) z1))
    | tuple xs =>
      cases r1' with
      | tup h1 z1 q1 =>
        rename_i b vs
        refine .inr ⟨b, vs, rfl, h1.sq, fun e => ?_, fun _ p hp => ?_⟩
        · refine o3.ok rh3 ?_
          have ex : LC.cut xs i j = xs := by
            unfold LC.cut
            rw [← q1.length, e.1, e.2, q1.length]
            simp
          show Rp _ _ _ _ (.tuple (LC.cut xs i j))
          rw [ex]
          exact Rp.tup h1 z1 q1
        · exact o3 _ μ3 _ (later_fresh hp _) (rh3.fresh hp _) (rp_tup rh3 hp (q1.cut i j) (Nat.le_trans (cut_length xs i j) z1))
    | _ => exact o3.elim
end
end L2.LC

/-! LC: built-ins called. -/
namespace L2.LC
open PySem PySem.Spec PyProof.Rows PySem.SeqAt
section
variable {X : Cx} {C : Calls}
def DCall (X : Cx) (f : Value) (F : Hs → List D → Option D) : Prop :=
  CallR X f fun xs H Q => ∃ Z μ S ds d, RelH X.K Z μ S H ∧ RelDs X.K Z μ S H ds xs ∧ F S ds = some d ∧ ∀ v μ' H', Later μ S H μ' S H' → RelH X.K Z μ' S H' → RelD X.K Z μ' S H' d v → Q v H'
theorem CallR_wk {f : Value} {r r' : List V → Hp → VK → Prop} (h : CallR X f r) (w : ∀ xs H Q, r' xs H Q → r xs H Q) : CallR X f r' := fun pins s σ H xs us Q I rx q => h pins s σ H xs us Q I rx (w xs H Q q)
theorem call_rd {F : Hs → List D → Option D} {cs : CEs} {σ : St} {H : Hp} {Q : VK} (o : tE X.K (fun ρ h => (evEs C cs ρ h).bind fun ds h1 => R.of (F h1 ds) h1) σ H Q) :
    tCB (fun xs H Q => ∃ Z μ S ds d, RelH X.K Z μ S H ∧ RelDs X.K Z μ S H ds xs ∧ F S ds = some d ∧ ∀ v μ' H', Later μ S H μ' S H' → RelH X.K Z μ' S H' → RelD X.K Z μ' S H' d v → Q v H') (tAs X.K (evEs C cs)) σ H Q := by
  obtain ⟨Z, μ, ρ, S, rh, re, o⟩ := o
  refine ⟨Z, μ, ρ, S, rh, re, o.bind fun ds S1 vs μ1 H1 _ l1 rh1 r1 o1 => ?_⟩
  cases q : F S1 ds with
  | none => rw [q] at o1; exact o1.elim
  | some d =>
    rw [q] at o1
    exact ⟨Z, μ1, S1, ds, d, rh1, r1, q, o1⟩
theorem back_any {env : Env} {pos : Pos} {es : List Expr} (h : (es.all notStar) = true) : (backTo pos (starEach es env)).any (·.1) = false := by
  have q := star_none (env := env) h
  generalize starEach es env = l at q ⊢
  cases l with
  | nil => rfl
  | cons x r =>
    first
      | (simpa [backTo, List.any_map, Function.comp_def] using q)
      | (simp [backTo] at q ⊢; exact q)
theorem sE_bfB {x : Str} {id : String} {b : BF} {p pos : Pos} {e : Expr} {es : List Expr} {cs : CEs} (hc : DCall X (.builtin id) (fun h ds => bfD h b ds)) (hg : Gl X x) (hm : X.mg x = none) (hv : bootBuiltins x = some (.builtin id)) (ha : PA X (e :: es) (tAs X.K (evEs C cs)))
    (hs : notStar e = true) (hss : es.all notStar = true) (hn : x ≠ "__name__") (hdb : (x == ("__debug__" : Str)) = false) : PE X (.Call (.Name x p) (e :: es) [] pos) (tE X.K (evE C (.bf b cs))) := by
  refine PE_wk (pe_callB hc hg hm hv ha hn hdb (star_cons hs) (back_any hss)) fun σ H Q ⟨Z, μ, ρ, S, rh, re, o⟩ => call_rd ⟨Z, μ, ρ, S, rh, re, ?_⟩
  simp only [evE] at o
  exact o
theorem sE_bfT {x : Str} {T : String} {b : BF} {p pos : Pos} {e : Expr} {es : List Expr} {cs : CEs} (hc : DCall X (.type T) (fun h ds => bfD h b ds)) (hg : Gl X x) (hm : X.mg x = none) (hv : bootBuiltins x = some (.type T)) (ha : PA X (e :: es) (tAs X.K (evEs C cs)))
    (hs : notStar e = true) (hss : es.all notStar = true) (hn : x ≠ "__name__") (hdb : (x == ("__debug__" : Str)) = false) : PE X (.Call (.Name x p) (e :: es) [] pos) (tE X.K (evE C (.bf b cs))) := by
  refine PE_wk (pe_callTy hc hg hm hv ha hn hdb (star_cons hs) (back_any hss)) fun σ H Q ⟨Z, μ, ρ, S, rh, re, o⟩ => call_rd ⟨Z, μ, ρ, S, rh, re, ?_⟩
  simp only [evE] at o
  exact o
/-! ### each of them -/
theorem bf_one {S : Hs} {b : BF} {ds : List D} {d : D} (e : bfD S b ds = some d) : ∃ ps z, rds S ds = some ps ∧ bfP b ps = some z ∧ d = .dat z := by
  unfold bfD at e
  split at e
  · rename_i ps h
    obtain ⟨z, e1, e2⟩ := Option.map_eq_some_iff.mp e
    exact ⟨ps, z, h, e1, e2.symm⟩
  · cases e
theorem rds_one {K : PySem.W.Frag} {Z : Addr → Prop} {μ : List Addr} {S : Hs} {H : Hp} {ds : List D} {vs : List V} {p : PyData} (r : RelDs K Z μ S H ds vs) (e : rds S ds = some [p]) : ∃ d v, ds = [d] ∧ vs = [v] ∧ RelD K Z μ S H d v ∧ rd S d = some p := by
  cases r with
  | nil => cases e
  | @cons d v ds vs a b =>
    simp only [rds] at e
    split at e
    · rename_i q qs h1 h2
      cases e
      cases b with
      | nil => exact ⟨d, v, rfl, rfl, a, h1⟩
      | cons a' b' =>
        simp only [rds] at h2
        split at h2 <;> cases h2
    · cases e
theorem rds_two {K : PySem.W.Frag} {Z : Addr → Prop} {μ : List Addr} {S : Hs} {H : Hp} {ds : List D} {vs : List V} {p q : PyData} (r : RelDs K Z μ S H ds vs) (e : rds S ds = some [p, q]) : ∃ d v d' v', ds = [d, d'] ∧ vs = [v, v'] ∧ RelD K Z μ S H d v ∧ rd S d = some p ∧ RelD K Z μ S H d' v' ∧ rd S d' = some q := by
  cases r with
  | nil => cases e
  | @cons d v ds vs a b =>
    simp only [rds] at e
    split at e
    · rename_i q' qs h1 h2
      cases e
      obtain ⟨d', v', rfl, rfl, h3, h4⟩ := rds_one b h2
      exact ⟨d, v, d', v', rfl, rfl, a, h1, h3, h4⟩
    · cases e
theorem rd_int {K : PySem.W.Frag} {Z : Addr → Prop} {μ : List Addr} {S : Hs} {H : Hp} {d : D} {v : V} {i : Int} (r : RelD K Z μ S H d v) (e : rd S d = some (.int i)) : v = .int i := by
  have := rd_dat e (by simp)
  subst this
  cases r
  rfl
theorem c_len : DCall X (.builtin "len") (fun h ds => bfD h .len ds) := by
  refine CallR_wk call_len_seq fun xs H Q ⟨Z, μ, S, ds, d, rh, r, e, q⟩ => ?_
  obtain ⟨ps, z, e1, e2, rfl⟩ := bf_one e
  change lenP ps = some z at e2
  unfold lenP at e2
  split at e2 <;> first | cases e2 | skip
  · obtain ⟨d, v, rfl, rfl, h1, h2⟩ := rds_one r e1
    obtain ⟨a, vs, rfl, h3, h4, _⟩ := rd_lst rh h1 h2
    refine ⟨a, vs, rfl, .inl h3, fin0 rh q ?_⟩
    rw [h4.length]
    exact Rp.int _
  · obtain ⟨d, v, rfl, rfl, h1, h2⟩ := rds_one r e1
    obtain ⟨a, vs, rfl, h3, h4, _⟩ := rd_tup h1 h2
    refine ⟨a, vs, rfl, .inr h3.sq, fin0 rh q ?_⟩
    rw [h4.length]
    exact Rp.int _
theorem c_int : DCall X (.type "int") (fun h ds => bfD h .int ds) := by
  refine CallR_wk call_int1 fun xs H Q ⟨Z, μ, S, ds, d, rh, r, e, q⟩ => ?_
  obtain ⟨ps, z, e1, e2, rfl⟩ := bf_one e
  change intP ps = some z at e2
  unfold intP at e2
  split at e2 <;> first | cases e2 | skip
  · obtain ⟨d, v, rfl, rfl, h1, h2⟩ := rds_one r e1
    have := rd_int h1 h2
    subst this
    exact .inl ⟨_, rfl, fin0 rh q (Rp.int _)⟩
  · obtain ⟨d, v, rfl, rfl, h1, h2⟩ := rds_one r e1
    have := rd_dat h2 (by simp)
    subst this
    cases h1
    exact .inr ⟨_, rfl, fin0 rh q (Rp.int _)⟩
theorem c_abs : DCall X (.builtin "abs") (fun h ds => bfD h .abs ds) := by
  refine CallR_wk call_abs fun xs H Q ⟨Z, μ, S, ds, d, rh, r, e, q⟩ => ?_
  obtain ⟨ps, z, e1, e2, rfl⟩ := bf_one e
  change absP ps = some z at e2
  unfold absP at e2
  split at e2 <;> first | cases e2 | skip
  · obtain ⟨d, v, rfl, rfl, h1, h2⟩ := rds_one r e1
    have := rd_int h1 h2
    subst this
    exact ⟨_, rfl, fin0 rh q (Rp.int _)⟩
theorem c_min2 (hc : X.calm = true) : DCall X (.builtin "min") (fun h ds => bfD h .min2 ds) := by
  refine CallR_wk (call_min2 hc) fun xs H Q ⟨Z, μ, S, ds, d, rh, r, e, q⟩ => ?_
  obtain ⟨ps, z, e1, e2, rfl⟩ := bf_one e
  change min2P ps = some z at e2
  unfold min2P at e2
  split at e2 <;> first | cases e2 | skip
  · obtain ⟨d, v, d', v', rfl, rfl, h1, h2, h3, h4⟩ := rds_two r e1
    have := rd_int h1 h2
    subst this
    have := rd_int h3 h4
    subst this
    exact ⟨_, _, rfl, fin0 rh q (Rp.int _)⟩
theorem c_max2 (hc : X.calm = true) : DCall X (.builtin "max") (fun h ds => bfD h .max2 ds) := by
  refine CallR_wk (call_max2 hc) fun xs H Q ⟨Z, μ, S, ds, d, rh, r, e, q⟩ => ?_
  obtain ⟨ps, z, e1, e2, rfl⟩ := bf_one e
  change max2P ps = some z at e2
  unfold max2P at e2
  split at e2 <;> first | cases e2 | skip
  · obtain ⟨d, v, d', v', rfl, rfl, h1, h2, h3, h4⟩ := rds_two r e1
    have := rd_int h1 h2
    subst this
    have := rd_int h3 h4
    subst this
    exact ⟨_, _, rfl, fin0 rh q (Rp.int _)⟩
theorem c_tuple : DCall X (.type "tuple") (fun h ds => bfD h .tuple ds) := by
  refine CallR_wk call_tuple_of fun xs H Q ⟨Z, μ, S, ds, d, rh, r, e, q⟩ => ?_
  obtain ⟨ps, z, e1, e2, rfl⟩ := bf_one e
  change tupP ps = some z at e2
  unfold tupP at e2
  split at e2 <;> first | cases e2 | skip
  · obtain ⟨d, v, rfl, rfl, h1, h2⟩ := rds_one r e1
    obtain ⟨a, vs, rfl, h3, h4, h5⟩ := rd_lst rh h1 h2
    exact ⟨a, vs, rfl, .inl ⟨h3, fun l hl => q _ μ _ (later_fresh hl _) (rh.fresh hl _) (rp_tup rh hl h4 h5)⟩⟩
  · obtain ⟨d, v, rfl, rfl, h1, h2⟩ := rds_one r e1
    obtain ⟨a, vs, rfl, h3, h4, h5⟩ := rd_tup h1 h2
    exact ⟨a, vs, rfl, .inr ⟨h3.sq, fin0 rh q (Rp.tup h3 h5 h4)⟩⟩
theorem c_list : DCall X (.type "list") (fun h ds => bfD h .list ds) := by
  refine CallR_wk call_list_of fun xs H Q ⟨Z, μ, S, ds, d, rh, r, e, q⟩ => ?_
  obtain ⟨ps, z, e1, e2, rfl⟩ := bf_one e
  change lstP ps = some z at e2
  unfold lstP at e2
  split at e2 <;> first | cases e2 | skip
  · obtain ⟨d, v, rfl, rfl, h1, h2⟩ := rds_one r e1
    obtain ⟨a, vs, rfl, h3, h4, h5⟩ := rd_lst rh h1 h2
    exact ⟨a, vs, rfl, .inl h3, fun l hl => q _ μ _ (later_fresh hl _) (rh.fresh hl _) (rp_lst rh hl h4 h5)⟩
  · obtain ⟨d, v, rfl, rfl, h1, h2⟩ := rds_one r e1
    obtain ⟨a, vs, rfl, h3, h4, h5⟩ := rd_tup h1 h2
    exact ⟨a, vs, rfl, .inr h3.sq, fun l hl => q _ μ _ (later_fresh hl _) (rh.fresh hl _) (rp_lst rh hl h4 h5)⟩

/-! ### repr -/
theorem c_repr {k : Nat} (hr : Room k X.A) (gd : X.A.guards = some []) : DCall X (.builtin "repr") (fun h ds => bfD h .repr ds) := by
  intro pins s σ H xs us Q I rx h
  obtain ⟨Z, μ, S, ds, d, rh, r, e, q⟩ := h
  obtain ⟨ps, z, e1, e2, rfl⟩ := bf_one e
  change reprP ps = some z at e2
  unfold reprP at e2
  split at e2
  · rename_i p
    obtain ⟨d, v, rfl, rfl, h1, h2⟩ := rds_one r e1
    split at e2
    · rename_i hb
      cases e2
      simp only [Bool.and_eq_true, decide_eq_true_eq, Bool.not_eq_true'] at hb
      obtain ⟨⟨⟨b1, b2⟩, b3⟩, b4⟩ := hb
      obtain ⟨u, rfl, ru⟩ := vals1 rx
      have dp := rd_dp rh h1 h2
      have un := hr.units
      have un2 := hr.un
      have fin : ∀ h' t tk, (∀ b o, s.heap.get? b = some o → h'.get? b = some o) → EP X pins σ Q (.str p.shown t) { s with heap := h', toks := tk } := fun h' t tk k => ⟨.str p.shown, H, I.kept k, ⟨_, rfl⟩, fin0 rh q (Rp.str _)⟩
      obtain ⟨as, hrd⟩ := Dp.reads I p v u dp ru
      cases p with
      | none =>
        cases dp
        cases ru
        exact P.repr_of_none (fin s.heap _ _ fun _ _ e => e)
      | bool b =>
        cases dp
        cases ru
        exact P.repr_of_bool (fin s.heap _ _ fun _ _ e => e)
      | int i =>
        cases dp
        obtain ⟨t, rfl⟩ := ru
        exact P.repr_of_int (by simpa [PyData.showable] using b1) (fin s.heap _ _ fun _ _ e => e)
      | str x =>
        cases dp
        obtain ⟨t, rfl⟩ := ru
        exact P.repr_of_str (fin s.heap _ _ fun _ _ e => e) b4
      | list xs =>
        cases dp
        cases ru
        exact repr_of_reads' hrd b1 (PyData.noDict_hsm b2) gd (by omega) (fun _ _ e => e) fin b4
      | tuple xs =>
        cases dp
        cases ru
        exact repr_of_reads' hrd b1 (PyData.noDict_hsm b2) gd (by omega) (fun _ _ e => e) fin b4
      | dict kvs => simp [PyData.hasDict] at b2
    · cases e2
  · cases e2
/-! ### all, any, isinstance -/
theorem RpAll.bools {K : PySem.W.Frag} {H : Hp} {L : Addr → Prop} : ∀ {vs : List V} {ps : List PyData}, RpAll K H L vs ps → ps.all isBoolD = true → ∃ bs : List Bool, vs = bs.map V.bl ∧ ps = bs.map PyData.bool
  | _, _, .nil, _ => ⟨[], rfl, rfl⟩
  | _, _, .cons a b, h => by
    simp only [List.all_cons, Bool.and_eq_true] at h
    obtain ⟨bs, e1, e2⟩ := RpAll.bools b h.2
    cases a <;> simp [isBoolD] at h
    rename_i b'
    exact ⟨b' :: bs, by simp [e1], by simp [e2]⟩
theorem any_bools (bs : List Bool) : (bs.map PyData.bool).any PyData.truthy = bs.any id := by induction bs <;> simp_all [PyData.truthy]
theorem all_bools (bs : List Bool) : (bs.map PyData.bool).all PyData.truthy = bs.all id := by induction bs <;> simp_all [PyData.truthy]
theorem c_any (hc : X.calm = true) : DCall X (.builtin "any") (fun h ds => bfD h .any ds) := by
  refine CallR_wk (cr_any hc) fun xs H Q ⟨Z, μ, S, ds, d, rh, r, e, q⟩ => ?_
  obtain ⟨ps, z, e1, e2, rfl⟩ := bf_one e
  change anyP ps = some z at e2
  unfold anyP at e2
  split at e2
  · obtain ⟨d, v, rfl, rfl, h1, h2⟩ := rds_one r e1
    obtain ⟨a, vs, rfl, h3, h4, _⟩ := rd_lst rh h1 h2
    split at e2
    · rename_i hb
      cases e2
      obtain ⟨bs, rfl, rfl⟩ := h4.bools hb
      refine ⟨a, bs, rfl, h3, fin0 rh q ?_⟩
      rw [any_bools]
      exact Rp.bl _
    · cases e2
  · cases e2
theorem c_all (hc : X.calm = true) : DCall X (.builtin "all") (fun h ds => bfD h .all ds) := by
  intro pins s σ H xs us Q I rx h
  obtain ⟨Z, μ, S, ds, d, rh, r, e, q⟩ := h
  obtain ⟨ps, z, e1, e2, rfl⟩ := bf_one e
  change allP ps = some z at e2
  unfold allP at e2
  split at e2
  · obtain ⟨d, v, rfl, rfl, h1, h2⟩ := rds_one r e1
    obtain ⟨a, vs, rfl, h3, h4, _⟩ := rd_lst rh h1 h2
    split at e2
    · rename_i hb
      cases e2
      obtain ⟨u, rfl, ru⟩ := vals1 rx
      cases ru
      obtain ⟨its, rv, pl, _⟩ := I.list h3
      obtain ⟨as, hr⟩ := Dp.readsAll I _ _ its h4.dp rv
      refine PySem.W.all_list_data (I.ok.hd hc) pl.isList (by simpa using hr) (DpAll.plain h4.dp) (fun x hx => ?_) fun h' tk kp => ?_
      · have := List.all_eq_true.mp hb x hx
        cases x <;> simp [isBoolD] at this
        simp [PyData.fits63]
      · exact ⟨.bl _, H, I.kept kp, rfl, fin0 rh q (Rp.bl _)⟩
    · cases e2
  · cases e2
def tyName : Ty → String
  | .int => "int"
  | .bool => "bool"
  | .str => "str"
  | .tuple => "tuple"
theorem c_isi (t : Ty) : CallR X (.builtin "isinstance") (fun xs H Q => ∃ x p, xs = [x, .ty (tyName t)] ∧ Dp X.K H x p ∧ Q (.bl (isP t p)) H) := by
  intro pins s σ H xs us Q I rx h
  obtain ⟨x, p, rfl, hd, q⟩ := h
  cases rx with
  | cons r1 r2 =>
    cases r2 with
    | cons r3 r4 =>
      cases r4
      cases r3
      obtain ⟨as, hr⟩ := Dp.reads I p x _ hd r1
      cases t with
      | int => exact PySem.W.isinstance_int_data hr fun tk _ => ⟨.bl _, H, I.tok tk, rfl, q⟩
      | bool => exact PySem.W.isinstance_bool_data hr fun tk _ => ⟨.bl _, H, I.tok tk, rfl, q⟩
      | str => exact PySem.W.isinstance_str_data hr fun tk _ => ⟨.bl _, H, I.tok tk, rfl, q⟩
      | tuple => exact PySem.W.isinstance_tuple_data hr fun tk _ => ⟨.bl _, H, I.tok tk, rfl, q⟩
theorem sE_isi {t : Ty} {tn : Str} {p pt pos : Pos} {e : Expr} {c : CE} (hg : Gl X "isinstance") (hm : X.mg "isinstance" = none) (hv : bootBuiltins "isinstance" = some (.builtin "isinstance")) (hg2 : Gl X tn) (hm2 : X.mg tn = none) (hv2 : bootBuiltins tn = some (.type (tyName t)))
    (hn2 : tn ≠ "__name__") (hd2 : (tn == ("__debug__" : Str)) = false) (he : PE X e (tE X.K (evE C c))) (hs : notStar e = true) : PE X (.Call (.Name "isinstance" p) [e, .Name tn pt] [] pos) (tE X.K (evE C (.isi t c))) := by
  refine PE_wk (pe_callB (c_isi t) hg hm hv (pa_cons he (pa_cons (pe_bltn (v := .ty (tyName t)) hg2 hm2 hv2 rfl hn2 hd2) pa_nil) (star_cons hs)) (by decide) (by decide) (star_cons hs) (back_any (by rfl))) fun σ H Q ⟨Z, μ, ρ, S, rh, re, o⟩ => ?_
  simp only [evE] at o
  refine ⟨Z, μ, ρ, S, rh, re, o.bind fun d S1 v μ1 H1 _ l1 rh1 r1 o1 => ?_⟩
  cases d with
  | ref n => exact o1.elim
  | scr ns => exact o1.elim
  | dat q =>
    refine ⟨v, q, rfl, Rp.dp r1, ?_⟩
    exact o1.ok rh1 (Rp.bl _)
end
end L2.LC

/-! LC: sorted, min, max. -/
namespace PySem.W
open PySem PySem.Calls PyProof.Rows
section
variable {prog : Program} {w : World} {A : Around} {E : Value → Shared → Prop} {s : Shared}
theorem lc_collect_tuple {l : Addr} {vs : List Value} {Q : List Value → Shared → Prop} (hl : IsTup s.heap l vs.toArray)
    (h : Q vs { s with heap := (s.heap.push (seqObj "list" #[] 0)).update s.heap.objs.size (Obj.mapSeq (· ++ vs.toArray)) }) (hsz : vs.length ≤ sizeLine) :
    wpAny (model prog w) A (collect (.ref l)) Q E s := by
  obtain ⟨o, ho, hc, n, hd⟩ := id hl
  unfold collect
  refine wpAny_bind (wpAny_runValue (codeAny_builtin entry_proto_collect' ?_))
  show wpAny _ _ (do again (.builtin "list.__iadd__" ⟨[← newList [], .ref l], []⟩)) _ _ s
  refine wpAny_bind (wpAny_newList (wpAny_pure ⟨Code.quiet_builtin _ (by decide +kernel), codeAny_builtin entry_list_iadd' ?_⟩))
  show wpAny _ _ (Builtin.List.listExtendWith (.ref s.heap.objs.size) (.ref l) (.ref s.heap.objs.size)) _ _ { s with heap := s.heap.push (seqObj "list" #[] 0) }
  unfold Builtin.List.listExtendWith
  have ho' : (s.heap.push (seqObj "list" #[] 0)).get? l = some o := Heap.get?_push_of_some _ ho
  refine wpAny_bind (wpAny_typeOf (T := "tuple") ⟨o, ho', hc⟩ ?_)
  have ht : (Value.type "tuple" == Value.type "tuple") = true := by rfl
  rw [if_pos (by rw [ht]; simp)]
  refine wpAny_bind (listItems_at ho' hd ?_)
  refine wpAny_bind (listItems_at (xs := #[]) (n := 0) (Heap.get?_push_size _ rfl) rfl ?_)
  rw [if_neg (by simp)]
  refine wpAny_bind (listUpdate_at (xs := #[]) (n := 0) (Heap.get?_push_size _ rfl) rfl ?_ (Nat.zero_le _) (by show (#[] ++ vs.toArray).size ≤ sizeLine + 1; simp only [Array.size_append, List.size_toArray, List.length_nil]; omega))
  refine wpAny_pure ?_
  show wpAny (model prog w) A (do
      let o ← load s.heap.objs.size
      match o.data with
      | .seq xs _ => pure xs.toList
      | _ => unsupported "internal:collect") Q E { s with heap := (s.heap.push (seqObj "list" #[] 0)).update s.heap.objs.size (Obj.mapSeq (· ++ vs.toArray)) }
  refine wpAny_bind (wpAny_load (get?_update_seq (Heap.get?_push_size _ rfl) _) ?_)
  show wpAny _ _ (pure ((#[] : Array Value) ++ vs.toArray).toList) Q E _
  rw [show ((#[] : Array Value) ++ vs.toArray).toList = vs by simp]
  exact wpAny_pure h
theorem lc_sorted_tuple {β : Type} {enc : β → PyData} {Rr : Value → β → Prop} {vs : List Value} {bs : List β} {l : Addr} {Q : Value → Shared → Prop} (hl : IsTup s.heap l vs.toArray) (e : EachIs Rr vs bs) (er : EachIs (fun v b => ∃ as, Reads s.heap v (enc b) as) vs bs) (hal : AllAlike (bs.map enc)) (hk : Sortable (bs.map enc)) (hL : bs.length ≤ sizeLine)
    (hu : ∀ b, b ∈ bs → A.units + 2 + (enc b).depth < cLine) (h : ∀ out, out.length = bs.length → EachIs Rr out (bs.mergeSort (dataLe false enc)) → Q (.ref (s.heap.objs.size + 1)) { s with heap := sortedAll s.heap vs (List.toArray out) }) :
    wpAny (model prog w) A (call (.builtin "sorted") [.ref l]) Q E s := by
  have hL' : vs.length ≤ sizeLine := by rw [e.length]; exact hL
  have er' : EachIs (fun v b => ∃ as, Reads (sortingHeap (copyHeap s.heap vs) (s.heap.objs.size + 1) vs) v (enc b) as) vs bs := er.mono fun _ _ ⟨as, r⟩ => ⟨as, PyProof.Rows.Reads.keeps (fun _ _ => sorting_copy_old) r⟩
  have fin := h _ (by rw [sortVals_length false rfl]; exact e.length) (sortVals_data false e er' hal)
  have S := SortsAt.data (prog := prog) (w := w) (A := A.in1.in1) (s := { s with heap := sortingHeap (copyHeap s.heap vs) (s.heap.objs.size + 1) vs }) (each_map (R := fun v d => ∃ as, Reads (sortingHeap (copyHeap s.heap vs) (s.heap.objs.size + 1) vs) v d as) enc er') hal hk (bound_map hu)
  refine call_function_entry_kw kind_sorted plain_sorted entry_sorted (args_sorted1 _) ?_
  unfold Builtin.«sorted»
  refine wpAny_bind (m := checkCount "sorted" 1 1 _) (wpAny_pure ?_)
  refine wpAny_bind (lc_collect_tuple hl ?_ hL')
  refine wpAny_bind (wpAny_newList ?_ hL')
  have hsz : ((s.heap.push (seqObj "list" #[] 0)).update s.heap.objs.size (Obj.mapSeq (· ++ vs.toArray))).objs.size = s.heap.objs.size + 1 := by
    rw [Heap.size_update, size_push']
  show wpAny _ _ _ _ _ { s with heap := copyHeap s.heap vs }
  rw [hsz]
  refine wpAny_bind (wpAny_holding (wpAny_call_entry_kw slot_list_sort ⟨_, copyHeap_at s.heap vs, rfl⟩ entry_list_sort ?body (args_list_sort _)))
  case body =>
    show wpAny (model prog w) A.in1.in1 (Builtin.«list.sort» ⟨[.ref (s.heap.objs.size + 1)], []⟩) _ _ _
    refine wpAny_mono (list_sort_vals (s := { s with heap := copyHeap s.heap vs }) (P := fun f s' => f = Fin.done (.ret .none) ∧ Q (.ref (s.heap.objs.size + 1)) s') (copyHeap_at s.heap vs) S hL' ⟨rfl, fin⟩) (fun f s' hf => ?_) fun _ _ e => e
    obtain ⟨rfl, hq⟩ := hf
    exact ⟨_, rfl, wpAny_pure ⟨_, rfl, hq⟩⟩
end
end PySem.W
namespace L2.LC
open PySem PySem.Spec PyProof.Rows PySem.SeqAt
section
variable {X : Cx} {C : Calls}

theorem zip_each {K : PySem.W.Frag} {H : Hp} {L : Addr → Prop} : ∀ {vs : List V} {ps : List PyData} {us : List Value}, RpAll K H L vs ps → Vals vs us → PySem.W.EachIs (fun u b => RelV b.1 u) us (vs.zip ps)
  | _, _, _, .nil, .nil => .nil
  | _, _, _, .cons _ b, .cons r t => .cons r (zip_each b t)
theorem zip_reads {pins : List (Addr × Obj)} {σ : St} {H : Hp} {L : Addr → Prop} {s : Shared} (I : Inv X pins σ H s) : ∀ {vs : List V} {ps : List PyData} {us : List Value}, RpAll X.K H L vs ps → Vals vs us → PySem.W.EachIs (fun u b => ∃ as, Reads s.heap u (Prod.snd b) as) us (vs.zip ps)
  | _, _, _, .nil, .nil => .nil
  | _, _, _, .cons a b, .cons r t => .cons (Dp.reads I _ _ _ a.dp r) (zip_reads I b t)
theorem each_vals : ∀ {us : List Value} {bs : List (V × PyData)}, PySem.W.EachIs (fun u (b : V × PyData) => RelV b.1 u) us bs → Vals (bs.map (·.1)) us
  | _, _, .nil => .nil
  | _, _, .cons r t => .cons r (each_vals t)
theorem RpAll.of_mem {K : PySem.W.Frag} {H : Hp} {L : Addr → Prop} : ∀ {bs : List (V × PyData)}, (∀ b ∈ bs, Rp K H L b.1 b.2) → RpAll K H L (bs.map (·.1)) (bs.map (·.2))
  | [], _ => .nil
  | b :: bs, h => .cons (h b (List.mem_cons_self ..)) (RpAll.of_mem fun c hc => h c (List.mem_cons_of_mem _ hc))
theorem RpAll.mem_zip {K : PySem.W.Frag} {H : Hp} {L : Addr → Prop} : ∀ {vs : List V} {ps : List PyData}, RpAll K H L vs ps → ∀ b ∈ vs.zip ps, Rp K H L b.1 b.2
  | _, _, .nil, b, h => by cases h
  | _, _, .cons a r, b, h => by
    rcases List.mem_cons.mp (show b ∈ (_, _) :: _ from h) with rfl | h
    · exact a
    · exact RpAll.mem_zip r b h
theorem RpAll.zip_snd {K : PySem.W.Frag} {H : Hp} {L : Addr → Prop} {vs : List V} {ps : List PyData} (r : RpAll K H L vs ps) : (vs.zip ps).map (·.2) = ps := List.map_snd_zip (by rw [r.length]; exact Nat.le_refl _)
theorem allAlike_ok {xs : List PyData} (h : allAlike xs = true) : PySem.W.AllAlike xs := fun d hd d' hd' => List.all_eq_true.mp (List.all_eq_true.mp h d hd) d' hd'
theorem sortable_ok {xs : List PyData} (h : sortable xs = true) : PySem.W.Sortable xs := by
  unfold sortable at h
  rw [Bool.or_eq_true] at h
  rcases h with h | h
  · refine .inl fun d hd => ?_
    have := List.all_eq_true.mp h d hd
    split at this
    · exact ⟨_, _, rfl⟩
    · cases this
  · refine .inr fun d hd => ?_
    have := List.all_eq_true.mp h d hd
    split at this
    · cases this
    · cases this
    · rename_i h1 h2
      exact ⟨fun e => h2 e, fun xs e => h1 xs e⟩
theorem depth_mem : ∀ {xs : List PyData} {x : PyData}, x ∈ xs → x.depth ≤ PyData.depthAll xs
  | y :: ys, x, h => by
    rcases List.mem_cons.mp h with rfl | h
    · simp [PyData.depthAll]; omega
    · have := depth_mem h
      simp [PyData.depthAll]; omega
theorem sort_fin {K : PySem.W.Frag} {H : Hp} {L : Addr → Prop} {vs : List V} {ps : List PyData} (r : RpAll K H L vs ps) :
    RpAll K H L (((vs.zip ps).mergeSort (PySem.W.dataLe false Prod.snd)).map (·.1)) (ps.mergeSort (PySem.W.dataLe false id)) := by
  have h := RpAll.of_mem (K := K) (H := H) (L := L) (bs := (vs.zip ps).mergeSort (PySem.W.dataLe false Prod.snd)) fun b hb => r.mem_zip b ((List.mergeSort_perm _ _).mem_iff.mp hb)
  have e : ((vs.zip ps).mergeSort (PySem.W.dataLe false Prod.snd)).map (·.2) = ps.mergeSort (PySem.W.dataLe false id) := by
    have q := PySem.W.sort_maps (r := PySem.W.dataLe false (Prod.snd : V × PyData → PyData)) (s := PySem.W.dataLe false id) (fun b : V × PyData => b.2) (l := vs.zip ps) (fun _ _ _ _ => rfl)
    rw [q, r.zip_snd]
  rw [e] at h
  exact h
theorem c_sorted {k : Nat} (hr : Room k X.A) : DCall X (.builtin "sorted") (fun h ds => bfD h .sorted ds) := by
  intro pins s σ H xs us Q I rx h
  obtain ⟨Z, μ, S, ds, d, rh, r, e, q⟩ := h
  obtain ⟨ps, z, e1, e2, rfl⟩ := bf_one e
  change sortP ps = some z at e2
  unfold sortP at e2
  simp only [kSort_eq] at e2
  have fin : ∀ {its : List Value} {vs : List V} {ps : List PyData} (out : List Value), RpAll X.K H (Lv Z μ S) vs ps → ps.length ≤ sizeLine → out.length = (vs.zip ps).length → PySem.W.EachIs (fun u (b : V × PyData) => RelV b.1 u) out ((vs.zip ps).mergeSort (PySem.W.dataLe false Prod.snd)) →
      (∀ v μ' H', Later μ S H μ' S H' → RelH X.K Z μ' S H' → RelD X.K Z μ' S H' (.dat (.list (ps.mergeSort (PySem.W.dataLe false id)))) v → Q v H') → EP X pins σ Q (.ref (s.heap.objs.size + 1)) { s with heap := sortedAll s.heap its (List.toArray out) } := fun {its vs ps} out hp hz hl he q => by
    obtain ⟨ep, he'⟩ := PyProof.Rows.sortedAll_at s.heap its (List.toArray out)
    have hn : H (s.heap.objs.size + 1) = none := I.hok.fresh (Nat.le_succ _)
    have hlen : (((vs.zip ps).mergeSort (PySem.W.dataLe false Prod.snd)).map (·.1)).length ≤ sizeLine := by
      rw [List.length_map, List.length_mergeSort, List.length_zip, hp.length, Nat.min_self]; exact hz
    refine ⟨.ref _, upd H (s.heap.objs.size + 1) (.lst (((vs.zip ps).mergeSort (PySem.W.dataLe false Prod.snd)).map (·.1))), I.laid (t' := s.toks) (fun _ _ => PyProof.Rows.sortedAll_old) (Nat.le_succ _) ⟨hlen, out, ep, each_vals he, he'⟩, rfl, ?_⟩
    exact q _ μ _ (later_fresh hn _) (rh.fresh hn _) (rp_lst rh hn (sort_fin hp) (by rw [List.length_mergeSort]; exact hz))
  have units : ∀ {vs : List V} {ps : List PyData}, PyData.depthAll ps ≤ 100 → ∀ b ∈ vs.zip ps, X.A.units + 2 + (Prod.snd b).depth < cLine := fun {vs ps} hd b hb => by
    have h1 := depth_mem (List.of_mem_zip hb).2
    have h2 := hr.un
    omega
  split at e2
  · obtain ⟨d, v, rfl, rfl, h1, h2⟩ := rds_one r e1
    obtain ⟨a, vs, rfl, h3, h4, h5⟩ := rd_lst rh h1 h2
    split at e2
    · rename_i hb
      cases e2
      unfold sortOk at hb
      simp only [Bool.and_eq_true, decide_eq_true_eq] at hb
      obtain ⟨u, rfl, ru⟩ := vals1 rx
      cases ru
      obtain ⟨its, rv, pl, _⟩ := I.list h3
      refine PySem.W.sorted_data (enc := Prod.snd) pl.isList (zip_each h4 rv) (zip_reads I h4 rv) (by rw [h4.zip_snd]; exact allAlike_ok hb.1.1) (by rw [h4.zip_snd]; exact sortable_ok hb.1.2) (by rw [List.length_zip, h4.length, Nat.min_self]; exact h5) (units hb.2) fun out ho he => ?_
      exact fin out h4 h5 ho he q
    · cases e2
  · obtain ⟨d, v, rfl, rfl, h1, h2⟩ := rds_one r e1
    obtain ⟨a, vs, rfl, h3, h4, h5⟩ := rd_tup h1 h2
    split at e2
    · rename_i hb
      cases e2
      unfold sortOk at hb
      simp only [Bool.and_eq_true, decide_eq_true_eq] at hb
      obtain ⟨u, rfl, ru⟩ := vals1 rx
      cases ru
      obtain ⟨its, rv, pl, _⟩ := I.tuple h3.sq
      refine PySem.W.lc_sorted_tuple (enc := Prod.snd) pl (zip_each h4 rv) (zip_reads I h4 rv) (by rw [h4.zip_snd]; exact allAlike_ok hb.1.1) (by rw [h4.zip_snd]; exact sortable_ok hb.1.2) (by rw [List.length_zip, h4.length, Nat.min_self]; exact h5) (units hb.2) fun out ho he => ?_
      exact fin out h4 h5 ho he q
    · cases e2
  · cases e2

theorem minD_mem (x : PyData) : ∀ xs : List PyData, PySem.W.minD x xs ∈ x :: xs := by
  intro xs
  unfold PySem.W.minD
  induction xs generalizing x with
  | nil => simp
  | cons y ys ih =>
    simp only [List.foldl_cons]
    split
    · exact List.mem_cons_of_mem _ (ih y)
    · rcases List.mem_cons.mp (ih x) with h | h
      · rw [h]; exact List.mem_cons_self ..
      · exact List.mem_cons_of_mem _ (List.mem_cons_of_mem _ h)
theorem maxD_mem (x : PyData) : ∀ xs : List PyData, PySem.W.maxD x xs ∈ x :: xs := by
  intro xs
  unfold PySem.W.maxD
  induction xs generalizing x with
  | nil => simp
  | cons y ys ih =>
    simp only [List.foldl_cons]
    split
    · exact List.mem_cons_of_mem _ (ih y)
    · rcases List.mem_cons.mp (ih x) with h | h
      · rw [h]; exact List.mem_cons_self ..
      · exact List.mem_cons_of_mem _ (List.mem_cons_of_mem _ h)
theorem ext_ok {xs : List PyData} (h : extOk xs = true) : PySem.W.AlikeAll xs ∧ PyData.depthAll xs ≤ 100 := by
  unfold extOk at h
  simp only [Bool.and_eq_true, decide_eq_true_eq] at h
  refine ⟨⟨fun x hx y hy => allAlike_ok h.1.1 x hx y hy, fun x hx e => ?_⟩, h.2⟩
  have := List.all_eq_true.mp h.1.2 x hx
  rw [e] at this
  cases this
/-- an item of a list that reads as z, z one of the list's data -/
theorem ext_item {pins : List (Addr × Obj)} {σ : St} {H : Hp} {L : Addr → Prop} {s : Shared} (I : Inv X pins σ H s) {vs : List V} {ps : List PyData} {its : List Value} (h4 : RpAll X.K H L vs ps) (rv : Vals vs its) (hal : PySem.W.AlikeAll ps)
    {i : Nat} {v : Value} {z : PyData} {h' : Heap} {bs : List Addr} (hi : its[i]? = some v) (hz : z ∈ ps) (hr : Reads h' v z bs) (kp : ∀ b o, s.heap.get? b = some o → h'.get? b = some o) : ∃ x, RelV x v ∧ Rp X.K H L x z := by
  have hl : i < ps.length := by
    have := (List.getElem?_eq_some_iff.mp hi).1
    have h1 := rv.length
    have h2 := h4.length
    omega
  obtain ⟨x, hx, rp⟩ := h4.get (List.getElem?_eq_getElem hl)
  obtain ⟨u, hu, ru⟩ := rv.get hx
  rw [hi] at hu
  cases hu
  obtain ⟨as, hr'⟩ := Dp.reads I _ x v rp.dp ru
  have e := PySem.W.alike_unique _ _ _ _ _ (hal.1 _ (List.getElem_mem hl) z hz) (PyProof.Rows.Reads.keeps kp hr') hr
  rw [e] at rp
  exact ⟨x, ru, rp⟩
theorem c_min1 {k : Nat} (hr : Room k X.A) (hc : X.calm = true) : DCall X (.builtin "min") (fun h ds => bfD h .min1 ds) := by
  intro pins s σ H xs us Q I rx h
  obtain ⟨Z, μ, S, ds, d, rh, r, e, q⟩ := h
  obtain ⟨ps, z, e1, e2, rfl⟩ := bf_one e
  change minP ps = some z at e2
  unfold minP at e2
  split at e2
  · obtain ⟨d, v, rfl, rfl, h1, h2⟩ := rds_one r e1
    obtain ⟨a, vs, rfl, h3, h4, h5⟩ := rd_lst rh h1 h2
    split at e2
    · rename_i hb
      cases e2
      obtain ⟨hal, hd⟩ := ext_ok hb
      obtain ⟨u, rfl, ru⟩ := vals1 rx
      cases ru
      obtain ⟨its, rv, pl, _⟩ := I.list h3
      obtain ⟨as, hrs⟩ := Dp.readsAll I _ _ its h4.dp rv
      refine PySem.W.min_list_data (I.ok.hd hc) pl.isList (by simpa using hrs) hal (by have := hr.un; omega) fun i v h' tk bs hi hv kp => ?_
      obtain ⟨x, rx', rp⟩ := ext_item I h4 rv hal (by simpa using hi) (minD_mem _ _) hv kp
      exact ⟨x, H, I.kept kp, rx', fin0 rh q rp⟩
    · cases e2
  · cases e2
theorem c_max1 {k : Nat} (hr : Room k X.A) (hc : X.calm = true) : DCall X (.builtin "max") (fun h ds => bfD h .max1 ds) := by
  intro pins s σ H xs us Q I rx h
  obtain ⟨Z, μ, S, ds, d, rh, r, e, q⟩ := h
  obtain ⟨ps, z, e1, e2, rfl⟩ := bf_one e
  change maxP ps = some z at e2
  unfold maxP at e2
  split at e2
  · obtain ⟨d, v, rfl, rfl, h1, h2⟩ := rds_one r e1
    obtain ⟨a, vs, rfl, h3, h4, h5⟩ := rd_lst rh h1 h2
    split at e2
    · rename_i hb
      cases e2
      obtain ⟨hal, hd⟩ := ext_ok hb
      obtain ⟨u, rfl, ru⟩ := vals1 rx
      cases ru
      obtain ⟨its, rv, pl, _⟩ := I.list h3
      obtain ⟨as, hrs⟩ := Dp.readsAll I _ _ its h4.dp rv
      refine PySem.W.max_list_data (I.ok.hd hc) pl.isList (by simpa using hrs) hal (by have := hr.un; omega) fun i v h' tk bs hi hv kp => ?_
      obtain ⟨x, rx', rp⟩ := ext_item I h4 rv hal (by simpa using hi) (maxD_mem _ _) hv kp
      exact ⟨x, H, I.kept kp, rx', fin0 rh q rp⟩
    · cases e2
  · cases e2
end
end L2.LC

/-! LC: what is walked, targets, comprehensions. -/
namespace L2.LC
open PySem PySem.Spec PyProof.Rows
/-! ### what is walked -/
structure Yields (K : PySem.W.Frag) (Z : Addr → Prop) (J : It) (ds : List D) (μ : List Addr) (S : Hs) (H : Hp) : Prop where
  len : ds.length ≤ sizeLine
  go : ∀ (i : Nat) d μ' S' H', ds[i]? = some d → Later μ S H μ' S' H' → RelH K Z μ' S' H' → J.go i H' ∧ ∀ x H'', J.yld i H' x H'' → Later μ' S' H' μ' S' H'' ∧ RelH K Z μ' S' H'' ∧ RelD K Z μ' S' H'' d x
  stop : ∀ (i : Nat) μ' S' H', ds.length ≤ i → Later μ S H μ' S' H' → RelH K Z μ' S' H' → J.stop i H'
def tI (K : PySem.W.Frag) (m : En → Hs → R (List D)) : TI := fun σ H Rr => ∃ Z μ ρ S, RelH K Z μ S H ∧ RelE K Z μ S H ρ σ ∧
  match m ρ S with
  | .ok ds S1 => ∀ J μ1 H1, Later μ S H μ1 S1 H1 → RelH K Z μ1 S1 H1 → (∀ Z' μ' S' H', Later μ1 S1 H1 μ' S' H' → RelH K Z' μ' S' H' → (∀ a, Z a → Z' a) → (∀ a, Z' a → ¬ Z a → H1 a = none) → Yields K Z' J ds μ' S' H') → Rr J H1
  | _ => False
theorem PI_wk {X : Cx} {tg it : Expr} {w w' : TI} (h : PI X tg it w) (k : ∀ σ H Rr, w' σ H Rr → w σ H Rr) : PI X tg it w' := ⟨fun pins s σ H Rr I q => h.run pins s σ H Rr I (k σ H Rr q)⟩
section
variable {K : PySem.W.Frag}
/-- what stands is not among what was hidden later -/
theorem fx_hide {H H' : Hp} {Z Z' : Addr → Prop} {μ μ' : List Addr} {S S' : Hs} {a : Addr} {u : HO} (l : Later μ S H μ' S' H') (h : Rd H a u) (n : ¬ Lv Z μ S a) (hz : ∀ a, Z' a → ¬ Z a → H a = none) : Rd H' a u ∧ ¬ Lv Z' μ' S' a := by
  obtain ⟨h1, h2⟩ := l.rd h fun z => n (.inl z)
  refine ⟨h1, fun z => z.elim h2 fun y => ?_⟩
  have e := hz a y fun w => n (.inr w)
  rcases h with h | ⟨o, h⟩ <;> (rw [h] at e; cases e)
mutual
theorem Rp.hide {H H' : Hp} {Z Z' : Addr → Prop} {μ μ' : List Addr} {S S' : Hs} (l : Later μ S H μ' S' H') (hz : ∀ a, Z' a → ¬ Z a → H a = none) : ∀ {v : V} {p : PyData}, Rp K H (Lv Z μ S) v p → Rp K H' (Lv Z' μ' S') v p
  | _, _, .non => .non
  | _, _, .bl b => .bl b
  | _, _, .int i => .int i
  | _, _, .str x => .str x
  | _, _, .lst h z r => .lst (fx_hide l h.1 h.2 hz) z (RpAll.hide l hz r)
  | _, _, .tup h z r => .tup (h.elim (fun h => .inl (fx_hide l h.1 h.2 hz)) .inr) z (RpAll.hide l hz r)
theorem RpAll.hide {H H' : Hp} {Z Z' : Addr → Prop} {μ μ' : List Addr} {S S' : Hs} (l : Later μ S H μ' S' H') (hz : ∀ a, Z' a → ¬ Z a → H a = none) : ∀ {vs : List V} {ps : List PyData}, RpAll K H (Lv Z μ S) vs ps → RpAll K H' (Lv Z' μ' S') vs ps
  | _, _, .nil => .nil
  | _, _, .cons a b => .cons (Rp.hide l hz a) (RpAll.hide l hz b)
end
theorem RelD.hide {H H' : Hp} {Z Z' : Addr → Prop} {μ μ' : List Addr} {S S' : Hs} (l : Later μ S H μ' S' H') (hz : ∀ a, Z' a → ¬ Z a → H a = none) {d : D} {v : V} (r : RelD K Z μ S H d v) : RelD K Z' μ' S' H' d v := by
  cases d with
  | dat p => exact Rp.hide l hz r
  | ref n => obtain ⟨a, e, q⟩ := r; exact ⟨a, e, l.at q⟩
  | scr ns => obtain ⟨a, e, z, q⟩ := r; exact ⟨a, e, z, q.elim (fun q => .inl (fx_hide l q.1 q.2 hz)) .inr⟩
theorem RelE.hide {H H' : Hp} {Z Z' : Addr → Prop} {μ μ' : List Addr} {S S' : Hs} (l : Later μ S H μ' S' H') (hz : ∀ a, Z' a → ¬ Z a → H a = none) {ρ : En} {σ : St} (h : RelE K Z μ S H ρ σ) : RelE K Z' μ' S' H' ρ σ :=
  ⟨h.1, fun i d e => let ⟨v, q, r⟩ := h.2 i d e; ⟨v, q, r.hide l hz⟩⟩
theorem RpAll.all_get {H : Hp} {L : Addr → Prop} {vs : List V} {ps : List PyData} {i : Nat} {x : V} (r : RpAll K H L vs ps) (h : vs[i]? = some x) : ∃ p, ps[i]? = some p ∧ Rp K H L x p := by
  have hl : i < ps.length := by rw [← r.length]; exact (List.getElem?_eq_some_iff.mp h).1
  obtain ⟨v, e, rp⟩ := r.get (List.getElem?_eq_getElem hl)
  rw [h] at e
  cases e
  exact ⟨_, List.getElem?_eq_getElem hl, rp⟩
theorem yields_list {Z : Addr → Prop} {μ : List Addr} {S : Hs} {H : Hp} {a : Addr} {vs : List V} {ps : List PyData} (h : FxL H (Lv Z μ S) a vs) (r : RpAll K H (Lv Z μ S) vs ps) (hz : ps.length ≤ sizeLine) : Yields K Z (Itl K a) (ps.map .dat) μ S H := by
  refine ⟨by simpa using hz, fun i d μ' S' H' e l rh => ?_, fun i μ' S' H' e l rh => ?_⟩
  · rw [List.getElem?_map] at e
    obtain ⟨p, e1, rfl⟩ := Option.map_eq_some_iff.mp e
    obtain ⟨x, hx, rp⟩ := r.get e1
    have h' := h.later l
    refine ⟨⟨vs, x, h'.sq, hx⟩, fun y H'' hy => ?_⟩
    obtain ⟨rfl, hy⟩ := hy
    have e2 := hy vs h'.sq
    rw [hx] at e2
    cases e2
    exact ⟨Later.refl _ _ _, rh, Rp.later l rp⟩
  · exact ⟨vs, (h.later l).sq, by rw [r.length]; simpa using e⟩
theorem yields_scr {Z : Addr → Prop} {μ : List Addr} {S : Hs} {H : Hp} {a : Addr} {ns : List Int} (h : FxL H (Lv Z μ S) a (ns.map V.int) ∨ KL K a (ns.map V.int)) (hz : ns.length ≤ sizeLine) : Yields K Z (Itl K a) (ns.map dI) μ S H := by
  have sq : ∀ {μ' S' H'}, Later μ S H μ' S' H' → SqL K H' a (ns.map V.int) := fun l => h.elim (fun h => (h.later l).sq) .inr
  refine ⟨by simpa using hz, fun i d μ' S' H' e l rh => ?_, fun i μ' S' H' e l rh => ?_⟩
  · rw [List.getElem?_map] at e
    obtain ⟨p, e1, rfl⟩ := Option.map_eq_some_iff.mp e
    have hx : (ns.map V.int)[i]? = some (V.int p) := by rw [List.getElem?_map, e1]; rfl
    refine ⟨⟨ns.map V.int, _, sq l, hx⟩, fun y H'' hy => ?_⟩
    obtain ⟨rfl, hy⟩ := hy
    have e2 := hy _ (sq l)
    rw [hx] at e2
    cases e2
    exact ⟨Later.refl _ _ _, rh, Rp.int _⟩
  · exact ⟨ns.map V.int, sq l, by simpa using e⟩
theorem yields_tup {Z : Addr → Prop} {μ : List Addr} {S : Hs} {H : Hp} {a : Addr} {vs : List V} {ps : List PyData} (h : FxT K H (Lv Z μ S) a vs) (r : RpAll K H (Lv Z μ S) vs ps) (hz : ps.length ≤ sizeLine) : Yields K Z (Itt K a) (ps.map .dat) μ S H := by
  refine ⟨by simpa using hz, fun i d μ' S' H' e l rh => ?_, fun i μ' S' H' e l rh => ?_⟩
  · rw [List.getElem?_map] at e
    obtain ⟨p, e1, rfl⟩ := Option.map_eq_some_iff.mp e
    obtain ⟨x, hx, rp⟩ := r.get e1
    have h' := h.later l
    refine ⟨⟨vs, x, h'.sq, hx⟩, fun y H'' hy => ?_⟩
    obtain ⟨rfl, hy⟩ := hy
    have e2 := hy vs h'.sq
    rw [hx] at e2
    cases e2
    exact ⟨Later.refl _ _ _, rh, Rp.later l rp⟩
  · exact ⟨vs, (h.later l).sq, by rw [r.length]; simpa using e⟩
theorem rng_get {lo hi : Int} {i : Nat} {d : D} (e : (rngL lo hi)[i]? = some d) : i < (hi - lo).toNat ∧ d = dI (lo + (i : Int)) := by
  unfold rngL at e
  rw [List.getElem?_map] at e
  obtain ⟨k, e1, rfl⟩ := Option.map_eq_some_iff.mp e
  obtain ⟨h1, h2⟩ := List.getElem?_eq_some_iff.mp e1
  simp at h1 h2
  subst h2
  exact ⟨by omega, rfl⟩
theorem yields_rng {Z : Addr → Prop} {μ : List Addr} {S : Hs} {H : Hp} {lo hi : Int} (h1 : rngOk lo = true) (h2 : rngOk hi = true) : Yields K Z (Itr lo (hi - lo).toNat) (rngL lo hi) μ S H := by
  have hl : (rngL lo hi).length = (hi - lo).toNat := by simp [rngL]
  unfold rngOk at h1 h2
  simp only [Bool.and_eq_true, decide_eq_true_eq] at h1 h2
  refine ⟨?_, fun i d μ' S' H' e l rh => ?_, fun i μ' S' H' e l rh => ?_⟩
  · rw [hl, sizeLine_eq]; omega
  · obtain ⟨hi', rfl⟩ := rng_get e
    refine ⟨hi', fun y H'' hy => ?_⟩
    obtain ⟨rfl, rfl⟩ := hy
    exact ⟨Later.refl _ _ _, rh, Rp.int _⟩
  · show (hi - lo).toNat ≤ i
    omega
theorem two_len : 2 ≤ sizeLine := by decide
theorem yields_enum {Z : Addr → Prop} {μ : List Addr} {S : Hs} {H : Hp} {a : Addr} {vs : List V} {ps : List PyData} (h : FxL H (Lv Z μ S) a vs) (r : RpAll K H (Lv Z μ S) vs ps) (hz : ps.length ≤ sizeLine) : Yields K Z (Ite K a) (ps.mapIdx fun i p => dT [.int i, p]) μ S H := by
  refine ⟨by simpa using hz, fun i d μ' S' H' e l rh => ?_, fun i μ' S' H' e l rh => ?_⟩
  · rw [List.getElem?_mapIdx] at e
    obtain ⟨p, e1, rfl⟩ := Option.map_eq_some_iff.mp e
    obtain ⟨x, hx, rp⟩ := r.get e1
    have h' := h.later l
    refine ⟨⟨vs, x, h'.sq, hx⟩, fun y H'' hy => ?_⟩
    obtain ⟨T, x', rfl, hT, rfl, hy⟩ := hy
    have e2 := hy vs h'.sq
    rw [hx] at e2
    cases e2
    exact ⟨later_fresh hT _, rh.fresh hT _, rp_tup rh hT (.cons (.int _) (.cons (Rp.later l rp) .nil)) two_len⟩
  · exact ⟨vs, (h.later l).sq, by rw [r.length]; simpa using e⟩
theorem zip_get {ps qs : List PyData} {i : Nat} {d : D} (e : ((ps.zip qs).map fun r => dT [r.1, r.2])[i]? = some d) : ∃ p q, ps[i]? = some p ∧ qs[i]? = some q ∧ d = dT [p, q] := by
  rw [List.getElem?_map] at e
  obtain ⟨⟨p, q⟩, e1, rfl⟩ := Option.map_eq_some_iff.mp e
  rw [List.getElem?_zip_eq_some] at e1
  exact ⟨p, q, e1.1, e1.2, rfl⟩
theorem yields_zipL {Z : Addr → Prop} {μ : List Addr} {S : Hs} {H : Hp} {a b : Addr} {vs ws : List V} {ps qs : List PyData} (h : FxL H (Lv Z μ S) a vs) (r : RpAll K H (Lv Z μ S) vs ps) (h2 : FxL H (Lv Z μ S) b ws) (r2 : RpAll K H (Lv Z μ S) ws qs) (hz : ps.length ≤ sizeLine) :
    Yields K Z (Itz K a b) ((ps.zip qs).map fun r => dT [r.1, r.2]) μ S H := by
  refine ⟨by rw [List.length_map, List.length_zip]; omega, fun i d μ' S' H' e l rh => ?_, fun i μ' S' H' e l rh => ?_⟩
  · obtain ⟨p, q, e1, e2, rfl⟩ := zip_get e
    obtain ⟨x, hx, rp⟩ := r.get e1
    obtain ⟨y, hy, rq⟩ := r2.get e2
    have h' := h.later l
    have h2' := h2.later l
    refine ⟨⟨vs, ws, x, y, h'.sq, h2'.sq, hx, hy⟩, fun y' H'' hh => ?_⟩
    obtain ⟨T, x', y', rfl, hT, rfl, f1, f2⟩ := hh
    have e3 := f1 vs h'.sq
    rw [hx] at e3
    cases e3
    have e4 := f2 ws h2'.sq
    rw [hy] at e4
    cases e4
    exact ⟨later_fresh hT _, rh.fresh hT _, rp_tup rh hT (.cons (Rp.later l rp) (.cons (Rp.later l rq) .nil)) two_len⟩
  · refine ⟨vs, ws, (h.later l).sq, (h2.later l).sq, ?_⟩
    rw [r.length, r2.length]
    rw [List.length_map, List.length_zip] at e
    omega
theorem yields_zipT {Z : Addr → Prop} {μ : List Addr} {S : Hs} {H : Hp} {a b : Addr} {vs ws : List V} {ps qs : List PyData} (h : FxT K H (Lv Z μ S) a vs) (r : RpAll K H (Lv Z μ S) vs ps) (h2 : FxT K H (Lv Z μ S) b ws) (r2 : RpAll K H (Lv Z μ S) ws qs) (hz : ps.length ≤ sizeLine) :
    Yields K Z (RZ.ItzT K a b) ((ps.zip qs).map fun r => dT [r.1, r.2]) μ S H := by
  refine ⟨by rw [List.length_map, List.length_zip]; omega, fun i d μ' S' H' e l rh => ?_, fun i μ' S' H' e l rh => ?_⟩
  · obtain ⟨p, q, e1, e2, rfl⟩ := zip_get e
    obtain ⟨x, hx, rp⟩ := r.get e1
    obtain ⟨y, hy, rq⟩ := r2.get e2
    have h' := h.later l
    have h2' := h2.later l
    refine ⟨⟨vs, ws, x, y, h'.sq, h2'.sq, hx, hy⟩, fun y' H'' hh => ?_⟩
    obtain ⟨T, x', y', rfl, hT, rfl, f1, f2⟩ := hh
    have e3 := f1 vs h'.sq
    rw [hx] at e3
    cases e3
    have e4 := f2 ws h2'.sq
    rw [hy] at e4
    cases e4
    exact ⟨later_fresh hT _, rh.fresh hT _, rp_tup rh hT (.cons (Rp.later l rp) (.cons (Rp.later l rq) .nil)) two_len⟩
  · refine ⟨vs, ws, (h.later l).sq, (h2.later l).sq, ?_⟩
    rw [r.length, r2.length]
    rw [List.length_map, List.length_zip] at e
    omega
end
section
variable {X : Cx} {C : Calls} {tg : Expr}
/-- a list or a tuple -/
theorem pi_seq {l : Expr} {tl : TE} (hl : PE X l tl) : PI X tg l (fun σ H Rr => tl σ H fun x H1 => ∃ a, x = .ref a ∧ (((∃ xs, SqL X.K H1 a xs) ∧ Rr (Itl X.K a) H1) ∨ ((∃ xs, SqT X.K H1 a xs) ∧ Rr (Itt X.K a) H1))) := by
  refine ⟨fun pins s σ H Rr I h => ?_⟩
  refine thn (hl.run pins s σ H _ I h) fun v s1 ⟨x, H1, I1, r1, q1⟩ => ?_
  obtain ⟨a, e, q1⟩ := q1
  subst e
  cases r1
  have fp : ∀ b ∈ [s1.heap.objs.size], FpOk X pins H1 b := fun b hb => by
    have e : b = s1.heap.objs.size := by simpa using hb
    subst e
    exact I1.fpOk (Nat.le_refl _) (I1.hok.fresh (Nat.le_refl _))
  rcases q1 with ⟨⟨xs, hq⟩, q⟩ | ⟨⟨xs, hq⟩, q⟩
  · obtain ⟨its, rv, p, hz⟩ := I1.list hq
    refine wpAny_pyIter_list p.isList ?_
    exact ⟨s1.heap.objs.size, [s1.heap.objs.size], _, _, H1, rfl, I1.kept (t' := s1.toks) fun b o e => Heap.get?_push_of_some _ e, turn_list a _, ⟨_, Heap.get?_push_size _ rfl, rfl, rfl⟩, fp, q⟩
  · obtain ⟨its, rv, p, hz⟩ := I1.tuple hq
    refine wpAny_pyIter_tuple (show s1.heap.IsTuple a its.toArray from p) ?_
    exact ⟨s1.heap.objs.size, [s1.heap.objs.size], _, _, H1, rfl, I1.kept (t' := s1.toks) fun b o e => Heap.get?_push_of_some _ e, turn_tuple a _, ⟨_, Heap.get?_push_size _ rfl, rfl, rfl⟩, fp, q⟩
theorem tI_bind {K : PySem.W.Frag} {Z : Addr → Prop} {μ : List Addr} {S : Hs} {H : Hp} {r : R D} {f : D → Hs → R (List D)} {Rr : It → Hp → Prop} {Q' : VK}
    (h : match r.bind f with
      | .ok ds S1 => ∀ J μ1 H1, Later μ S H μ1 S1 H1 → RelH K Z μ1 S1 H1 → (∀ Z' μ' S' H', Later μ1 S1 H1 μ' S' H' → RelH K Z' μ' S' H' → (∀ a, Z a → Z' a) → (∀ a, Z' a → ¬ Z a → H1 a = none) → Yields K Z' J ds μ' S' H') → Rr J H1
      | _ => False)
    (k : ∀ d S1 v μ1 H1, Later μ S H μ1 S1 H1 → RelH K Z μ1 S1 H1 → RelD K Z μ1 S1 H1 d v →
      (match f d S1 with
      | .ok ds S2 => ∀ J μ2 H2, Later μ1 S1 H1 μ2 S2 H2 → RelH K Z μ2 S2 H2 → (∀ Z' μ' S' H', Later μ2 S2 H2 μ' S' H' → RelH K Z' μ' S' H' → (∀ a, Z a → Z' a) → (∀ a, Z' a → ¬ Z a → H2 a = none) → Yields K Z' J ds μ' S' H') → Rr J H2
      | _ => False) → Q' v H1) : Out K Z (RelD K Z) μ S H r Q' := by
  cases r with
  | no => exact h
  | ex x h' => exact h
  | ok d S1 =>
    intro v μ1 H1 l rh rv
    refine k d S1 v μ1 H1 l rh rv ?_
    simp only [R.bind_ok] at h
    cases e : f d S1 with
    | no => rw [e] at h; exact h
    | ex x h' => rw [e] at h; exact h
    | ok ds S2 =>
      rw [e] at h
      intro J μ2 H2 l2 rh2 y
      exact h J μ2 H2 (l.trans l2) rh2 y
theorem sI_seq {e : Expr} {c : CE} (h : PE X e (tE X.K (evE C c))) : PI X tg e (tI X.K (evI C (.seq c))) := by
  refine PI_wk (pi_seq h) fun σ H Rr ⟨Z, μ, ρ, S, rh, re, o⟩ => ?_
  simp only [evI] at o
  refine ⟨Z, μ, ρ, S, rh, re, tI_bind o fun d S1 v μ1 H1 l1 rh1 r1 o1 => ?_⟩
  cases d with
  | ref n => exact o1.elim
  | scr ns =>
    obtain ⟨a, rfl, z1, h1⟩ := r1
    refine ⟨_, rfl, .inl ⟨⟨_, h1.elim (fun h => h.sq) .inr⟩, o1 _ μ1 H1 (Later.refl _ _ _) rh1 fun Z' μ' S' H' l' rh' hz hz' => ?_⟩⟩
    exact yields_scr (h1.elim (fun h => .inl (fx_hide l' h.1 h.2 hz')) .inr) z1
  | dat p =>
    cases p with
    | list ps =>
      cases r1 with
      | lst h1 z1 q1 =>
        refine ⟨_, rfl, .inl ⟨⟨_, h1.sq⟩, o1 _ μ1 H1 (Later.refl _ _ _) rh1 fun Z' μ' S' H' l' rh' hz hz' => ?_⟩⟩
        exact yields_list (fx_hide l' h1.1 h1.2 hz') (RpAll.hide l' hz' q1) z1
    | tuple ps =>
      cases r1 with
      | tup h1 z1 q1 =>
        refine ⟨_, rfl, .inr ⟨⟨_, h1.sq⟩, o1 _ μ1 H1 (Later.refl _ _ _) rh1 fun Z' μ' S' H' l' rh' hz hz' => ?_⟩⟩
        exact yields_tup (h1.elim (fun h => .inl (fx_hide l' h.1 h.2 hz')) .inr) (RpAll.hide l' hz' q1) z1
    | _ => exact o1.elim

theorem PA1 {e : Expr} {t : TE} (h : PE X e t) (hs : notStar e = true) : PA X [e] (tCons t tNil) := pa_cons h pa_nil (star_cons hs)
theorem PA2 {e e2 : Expr} {t t2 : TE} (h : PE X e t) (h2 : PE X e2 t2) (hs : notStar e = true) (hs2 : notStar e2 = true) : PA X [e, e2] (tCons t (tCons t2 tNil)) := pa_cons h (pa_cons h2 pa_nil (star_cons hs2)) (star_cons hs)
theorem star_nil {env : Env} : starEach [] env = [] := rfl
theorem sI_rng1 {e : Expr} {c : CE} {p pos : Pos} (hg : Gl X "range") (hm : X.mg "range" = none) (h : PE X e (tE X.K (evE C c))) (hs : notStar e = true) : PI X tg (.Call (.Name "range" p) [e] [] pos) (tI X.K (evI C (.rng1 c))) := by
  refine PI_wk (pi_range1 hg hm (PA1 h hs) (by rw [star_cons hs, star_nil])) fun σ H Rr ⟨Z, μ, ρ, S, rh, re, o⟩ => ?_
  simp only [evI] at o
  refine ⟨Z, μ, ρ, S, rh, re, tI_bind o fun d S1 v μ1 H1 l1 rh1 r1 o1 => ?_⟩
  cases d with
  | ref n => exact o1.elim
  | scr ns => exact o1.elim
  | dat p =>
    cases p with
    | int j =>
      cases r1
      by_cases hj : rngOk j = true
      · simp only [hj, if_true] at o1
        have hb := hj
        unfold rngOk at hb
        simp only [Bool.and_eq_true, decide_eq_true_eq] at hb
        refine ⟨j, rfl, by omega, by omega, o1 _ μ1 H1 (Later.refl _ _ _) rh1 fun Z' μ' S' H' l' rh' hz hz' => ?_⟩
        have y := yields_rng (K := X.K) (Z := Z') (μ := μ') (S := S') (H := H') (lo := 0) (hi := j) (by decide) hj
        simpa using y
      · simp only [hj] at o1; exact o1.elim
    | _ => exact o1.elim
theorem sI_rng2 {e e2 : Expr} {c c2 : CE} {p pos : Pos} (hg : Gl X "range") (hm : X.mg "range" = none) (h : PE X e (tE X.K (evE C c))) (h2 : PE X e2 (tE X.K (evE C c2))) (hs : notStar e = true) (hs2 : notStar e2 = true) : PI X tg (.Call (.Name "range" p) [e, e2] [] pos) (tI X.K (evI C (.rng2 c c2))) := by
  refine PI_wk (pi_range2 hg hm (PA2 h h2 hs hs2) (by rw [star_cons hs, star_cons hs2, star_nil]) (by rw [star_cons hs2, star_nil])) fun σ H Rr ⟨Z, μ, ρ, S, rh, re, o⟩ => ?_
  simp only [evI] at o
  refine ⟨Z, μ, ρ, S, rh, re, tI_bind o fun d S1 v μ1 H1 l1 rh1 r1 o1 => ?_⟩
  refine ⟨Z, μ1, ρ, S1, rh1, re.later l1, tI_bind o1 fun d2 S2 v2 μ2 H2 l2 rh2 r2 o2 => ?_⟩
  have r1' := r1.later l2
  cases d with
  | ref n => exact o2.elim
  | scr ns => exact o2.elim
  | dat p =>
    cases p with
    | int i =>
      cases d2 with
      | ref n => exact o2.elim
      | scr ns => exact o2.elim
      | dat q =>
        cases q with
        | int j =>
          cases r1'
          cases r2
          by_cases hj : (rngOk i && rngOk j) = true
          · simp only [hj, if_true] at o2
            rw [Bool.and_eq_true] at hj
            have h3 := hj.1
            have h4 := hj.2
            unfold rngOk at h3 h4
            simp only [Bool.and_eq_true, decide_eq_true_eq] at h3 h4
            exact ⟨i, j, rfl, ⟨by omega, by omega, by omega, by omega⟩, o2 _ μ2 H2 (Later.refl _ _ _) rh2 fun Z' μ' S' H' l' rh' hz hz' => yields_rng hj.1 hj.2⟩
          · simp only [hj] at o2; exact o2.elim
        | _ => exact o2.elim
    | _ => exact o2.elim
theorem sI_enum {e : Expr} {c : CE} {p pos tpos : Pos} {elts : List Expr} {kk : Nat} (hg : Gl X "enumerate") (hm : X.mg "enumerate" = none) (h : PE X e (tE X.K (evE C c))) (hs : notStar e = true) : PI X (.Tuple elts kk tpos) (.Call (.Name "enumerate" p) [e] [] pos) (tI X.K (evI C (.enum c))) := by
  refine PI_wk (pi_enum hg hm (PA1 h hs) (by rw [star_cons hs, star_nil])) fun σ H Rr ⟨Z, μ, ρ, S, rh, re, o⟩ => ?_
  simp only [evI] at o
  refine ⟨Z, μ, ρ, S, rh, re, tI_bind o fun d S1 v μ1 H1 l1 rh1 r1 o1 => ?_⟩
  cases d with
  | ref n => exact o1.elim
  | scr ns => exact o1.elim
  | dat p =>
    cases p with
    | list ps =>
      cases r1 with
      | lst h1 z1 q1 =>
        exact ⟨_, _, rfl, h1.sq, o1 _ μ1 H1 (Later.refl _ _ _) rh1 fun Z' μ' S' H' l' rh' hz hz' => yields_enum (fx_hide l' h1.1 h1.2 hz') (RpAll.hide l' hz' q1) z1⟩
    | _ => exact o1.elim
theorem sI_zip {e e2 : Expr} {c c2 : CE} {p pos tpos : Pos} {elts : List Expr} {kk : Nat} (hg : Gl X "zip") (hm : X.mg "zip" = none) (h : PE X e (tE X.K (evE C c))) (h2 : PE X e2 (tE X.K (evE C c2))) (hs : notStar e = true) (hs2 : notStar e2 = true) :
    PI X (.Tuple elts kk tpos) (.Call (.Name "zip" p) [e, e2] [] pos) (tI X.K (evI C (.zip c c2))) := by
  refine PI_wk (RZ.pi_zipA hg hm (PA2 h h2 hs hs2) (star_cons hs) (back_any (by simp [hs2]))) fun σ H Rr ⟨Z, μ, ρ, S, rh, re, o⟩ => ?_
  simp only [evI] at o
  refine ⟨Z, μ, ρ, S, rh, re, tI_bind o fun d S1 v μ1 H1 l1 rh1 r1 o1 => ?_⟩
  refine ⟨Z, μ1, ρ, S1, rh1, re.later l1, tI_bind o1 fun d2 S2 v2 μ2 H2 l2 rh2 r2 o2 => ?_⟩
  have r1' := r1.later l2
  cases d with
  | ref n => exact o2.elim
  | scr ns => exact o2.elim
  | dat p =>
    cases d2 with
    | ref n => cases p <;> exact o2.elim
    | scr ns => cases p <;> exact o2.elim
    | dat q =>
      cases p with
      | list ps =>
        cases q with
        | list qs =>
          cases r1' with
          | lst h1 z1 q1 =>
            cases r2 with
            | lst h2 z2 q2 =>
              exact ⟨_, _, _, _, rfl, .inl ⟨h1.sq, h2.sq, o2 _ μ2 H2 (Later.refl _ _ _) rh2 fun Z' μ' S' H' l' rh' hz hz' => yields_zipL (fx_hide l' h1.1 h1.2 hz') (RpAll.hide l' hz' q1) (fx_hide l' h2.1 h2.2 hz') (RpAll.hide l' hz' q2) z1⟩⟩
        | _ => exact o2.elim
      | tuple ps =>
        cases q with
        | tuple qs =>
          cases r1' with
          | tup h1 z1 q1 =>
            cases r2 with
            | tup h2 z2 q2 =>
              exact ⟨_, _, _, _, rfl, .inr ⟨h1.sq, h2.sq, o2 _ μ2 H2 (Later.refl _ _ _) rh2 fun Z' μ' S' H' l' rh' hz hz' => yields_zipT (h1.elim (fun h => .inl (fx_hide l' h.1 h.2 hz')) .inr) (RpAll.hide l' hz' q1) (h2.elim (fun h => .inl (fx_hide l' h.1 h.2 hz')) .inr) (RpAll.hide l' hz' q2) z1⟩⟩
        | _ => exact o2.elim
      | _ => cases q <;> exact o2.elim
/-! ### targets -/
theorem wipe_set (x : Option V) : ∀ (vs : List Nat) (σ : St) (i : Nat), i ∈ vs → L2.wipe (σ.set i x) vs = L2.wipe σ vs
  | [], _, _, h => by cases h
  | v :: vs, σ, i, h => by
    unfold L2.wipe
    by_cases hi : i ∈ vs
    · rw [wipe_set x vs σ i hi]
    · have e : i = v := by
        rcases List.mem_cons.mp h with e | e
        · exact e
        · exact absurd e hi
      subst e
      have : ∀ (ws : List Nat) (σ : St), i ∉ ws → L2.wipe (σ.set i x) ws = (L2.wipe σ ws).set i x := fun ws => by
        induction ws with
        | nil => intro σ _; rfl
        | cons w ws ih =>
          intro σ hw
          simp only [List.mem_cons, not_or] at hw
          unfold L2.wipe
          rw [ih σ hw.2, List.set_comm _ _ hw.1]
      rw [this vs σ hi, List.set_set]
mutual
def Tg.ix : Tg → List Nat
  | .name i => [i]
  | .tup ts => ts.ix
def Tgs.ix : Tgs → List Nat
  | .nil => []
  | .cons t ts => t.ix ++ ts.ix
end
/-- slots that a target stores: what is wiped stays -/
def Chg (is : List Nat) (σ σ' : St) : Prop := ∀ vs : List Nat, (∀ i ∈ is, i ∈ vs) → L2.wipe σ' vs = L2.wipe σ vs
def gT (K : PySem.W.Frag) (t : Tg) : TG := fun v σ H Q => ∃ Z μ ρ S d ρ', RelH K Z μ S H ∧ RelE K Z μ S H ρ σ ∧ RelD K Z μ S H d v ∧ bindT t d ρ = some ρ' ∧ ∀ σ', RelE K Z μ S H ρ' σ' → Chg t.ix σ σ' → Q σ' H
def gTs (K : PySem.W.Frag) (ts : Tgs) : TGs := fun vs σ H Q => ∃ Z μ ρ S ps ρ', RelH K Z μ S H ∧ RelE K Z μ S H ρ σ ∧ RpAll K H (Lv Z μ S) vs ps ∧ bindTs ts ps ρ = some ρ' ∧ ∀ σ', RelE K Z μ S H ρ' σ' → Chg ts.ix σ σ' → Q σ' H
theorem PG_wk {e : Expr} {t t' : TG} (h : PG X e t) (w : ∀ v σ H Q, t' v σ H Q → t v σ H Q) : PG X e t' := ⟨fun pins s σ H v u Q I r q => h.run pins s σ H v u Q I r (w v σ H Q q)⟩
theorem PGs_wk {e : List Expr} {t t' : TGs} (h : PGs X e t) (w : ∀ v σ H Q, t' v σ H Q → t v σ H Q) : PGs X e t' := ⟨fun pins s σ H v u Q I r q => h.run pins s σ H v u Q I r (w v σ H Q q)⟩
theorem sG_name {i : Nat} {x : Str} {pos : Pos} (hN : X.N.Nodup) (hi : X.N[i]? = some x) (hx : Loc X.env.scope x) (hf : X.fn x = true ∨ X.env.scope.names.lookup x = some .local) : PG X (.Name x pos) (gT X.K (.name i)) := by
  refine PG_wk (pg_name hN hi hx hf) fun v σ H Q ⟨Z, μ, ρ, S, d, ρ', rh, re, rd, e, q⟩ => ?_
  simp only [bindT] at e
  cases e
  exact q _ (re.set i rd) fun vs h => wipe_set _ vs σ i (h i (by simp [Tg.ix]))
theorem sGs_nil : PGs X [] (gTs X.K .nil) := PGs_wk pgs_nil fun vs σ H Q ⟨Z, μ, ρ, S, ps, ρ', rh, re, rp, e, q⟩ => by
  cases ps with
  | nil =>
    simp only [bindTs] at e
    cases e
    cases rp
    exact ⟨rfl, q σ re fun _ _ => rfl⟩
  | cons p ps => simp [bindTs] at e
theorem sGs_cons {e : Expr} {es : List Expr} {t : Tg} {ts : Tgs} (h : PG X e (gT X.K t)) (hs : PGs X es (gTs X.K ts)) (ha : (assignEach (e :: es) X.env).map (·.2) = assign e X.env :: (assignEach es X.env).map (·.2)) : PGs X (e :: es) (gTs X.K (.cons t ts)) := by
  refine PGs_wk (pgs_cons h hs ha) fun vs σ H Q ⟨Z, μ, ρ, S, ps, ρ', rh, re, rp, e, q⟩ => ?_
  cases ps with
  | nil => simp [bindTs] at e
  | cons p ps =>
    cases rp with
    | cons r1 r2 =>
      simp only [bindTs] at e
      split at e
      · rename_i ρ1 e1
        refine ⟨_, _, rfl, Z, μ, ρ, S, .dat p, ρ1, rh, re, r1, e1, fun σ1 re1 c1 => ?_⟩
        refine ⟨Z, μ, ρ1, S, ps, ρ', rh, re1, r2, e, fun σ2 re2 c2 => q σ2 re2 fun vs h => ?_⟩
        rw [c2 vs fun i hi => h i (by simp [Tgs.ix, hi]), c1 vs fun i hi => h i (by simp [Tgs.ix, hi])]
      · cases e
theorem sG_tup {es : List Expr} {ts : Tgs} {k n : Nat} {pos : Pos} (hc : X.calm = true) (h : PGs X es (gTs X.K ts)) (hn : (assignEach es X.env).length = n) (hst : (assignEach es X.env).findIdx? (·.1) = none) (hl : ∀ ps ρ ρ', bindTs ts ps ρ = some ρ' → ps.length = n) : PG X (.Tuple es k pos) (gT X.K (.tup ts)) := by
  refine PG_wk (pg_tup (n := n) hc h hn hst) fun v σ H Q ⟨Z, μ, ρ, S, d, ρ', rh, re, rd, e, q⟩ => ?_
  cases d with
  | ref m => simp [bindT] at e
  | scr ns => simp [bindT] at e
  | dat p =>
    cases p with
    | tuple ps =>
      simp only [bindT] at e
      cases rd with
      | tup h1 z1 q1 =>
        refine ⟨_, _, rfl, h1.sq, by rw [q1.length]; exact hl _ _ _ e, Z, μ, ρ, S, ps, ρ', rh, re, q1, e, fun σ' re' c => q σ' re' fun vs hv => c vs hv⟩
    | _ => simp [bindT] at e
end
end L2.LC

/-! LC: comprehensions, loops, statements. -/
namespace L2.LC
open PySem PySem.Spec PyProof.Rows
section
variable {K : PySem.W.Frag}
mutual
theorem Rp.unhide {H : Hp} {L L' : Addr → Prop} (h : ∀ a, L' a → L a) : ∀ {v : V} {p : PyData}, Rp K H L v p → Rp K H L' v p
  | _, _, .non => .non
  | _, _, .bl b => .bl b
  | _, _, .int i => .int i
  | _, _, .str x => .str x
  | _, _, .lst q z r => .lst ⟨q.1, fun y => q.2 (h _ y)⟩ z (RpAll.unhide h r)
  | _, _, .tup q z r => .tup (q.elim (fun q => .inl ⟨q.1, fun y => q.2 (h _ y)⟩) .inr) z (RpAll.unhide h r)
theorem RpAll.unhide {H : Hp} {L L' : Addr → Prop} (h : ∀ a, L' a → L a) : ∀ {vs : List V} {ps : List PyData}, RpAll K H L vs ps → RpAll K H L' vs ps
  | _, _, .nil => .nil
  | _, _, .cons a b => .cons (Rp.unhide h a) (RpAll.unhide h b)
end
theorem RelD.unhide {Z Z' : Addr → Prop} {μ : List Addr} {S : Hs} {H : Hp} (h : ∀ a, Z' a → Z a) {d : D} {v : V} (r : RelD K Z μ S H d v) : RelD K Z' μ S H d v := by
  cases d with
  | dat p => exact Rp.unhide (fun a y => y.elim .inl fun z => .inr (h a z)) r
  | ref n => exact r
  | scr ns => obtain ⟨a, e, z, q⟩ := r; exact ⟨a, e, z, q.elim (fun q => .inl ⟨q.1, fun y => q.2 (y.elim .inl fun z => .inr (h a z))⟩) .inr⟩
theorem RelDs.unhide {Z Z' : Addr → Prop} {μ : List Addr} {S : Hs} {H : Hp} (h : ∀ a, Z' a → Z a) : ∀ {ds : List D} {vs : List V}, RelDs K Z μ S H ds vs → RelDs K Z' μ S H ds vs
  | _, _, .nil => .nil
  | _, _, .cons a b => .cons (RelD.unhide h a) (RelDs.unhide h b)
theorem RelH.unhide {Z Z' : Addr → Prop} {μ : List Addr} {S : Hs} {H : Hp} (h : ∀ a, Z' a → Z a) (r : RelH K Z μ S H) : RelH K Z' μ S H :=
  ⟨fun a ha => r.zt a (h a ha), r.len, r.nd, r.tr, fun n o a h1 h2 => by
    have q := r.ob n o a h1 h2
    cases o with
    | lst ds => obtain ⟨vs, e, z, rr⟩ := q; exact ⟨vs, e, z, RelDs.unhide h rr⟩
    | dic _ => exact q
    | gone => trivial⟩
/-- the hidden list is written: nothing else sees it -/
theorem hid_rd {H : Hp} {L : Addr → Prop} {D a : Addr} {o : HO} {u : HO} (hD : L D) (h : Rd H a u) (n : ¬ L a) : Rd (upd H D o) a u := by
  have ne : a ≠ D := fun e => n (e ▸ hD)
  rcases h with h | ⟨ob, h⟩
  · exact .inl (by rw [upd_ne ne]; exact h)
  · exact .inr ⟨ob, by rw [upd_ne ne]; exact h⟩
mutual
theorem Rp.hidW {H : Hp} {L : Addr → Prop} {D : Addr} {o : HO} (hD : L D) : ∀ {v : V} {p : PyData}, Rp K H L v p → Rp K (upd H D o) L v p
  | _, _, .non => .non
  | _, _, .bl b => .bl b
  | _, _, .int i => .int i
  | _, _, .str x => .str x
  | _, _, .lst q z r => .lst ⟨hid_rd hD q.1 q.2, q.2⟩ z (RpAll.hidW hD r)
  | _, _, .tup q z r => .tup (q.elim (fun q => .inl ⟨hid_rd hD q.1 q.2, q.2⟩) .inr) z (RpAll.hidW hD r)
theorem RpAll.hidW {H : Hp} {L : Addr → Prop} {D : Addr} {o : HO} (hD : L D) : ∀ {vs : List V} {ps : List PyData}, RpAll K H L vs ps → RpAll K (upd H D o) L vs ps
  | _, _, .nil => .nil
  | _, _, .cons a b => .cons (Rp.hidW hD a) (RpAll.hidW hD b)
end
theorem RelD.hidW {Z : Addr → Prop} {μ : List Addr} {S : Hs} {H : Hp} {D : Addr} {o : HO} (hD : Z D) {d : LC.D} {v : V} (r : RelD K Z μ S H d v) : RelD K Z μ S (upd H D o) d v := by
  cases d with
  | dat p => exact Rp.hidW (.inr hD) r
  | ref n => exact r
  | scr ns => obtain ⟨a, e, z, q⟩ := r; exact ⟨a, e, z, q.elim (fun q => .inl ⟨hid_rd (.inr hD) q.1 q.2, q.2⟩) .inr⟩
theorem RelDs.hidW {Z : Addr → Prop} {μ : List Addr} {S : Hs} {H : Hp} {D : Addr} {o : HO} (hD : Z D) : ∀ {ds : List LC.D} {vs : List V}, RelDs K Z μ S H ds vs → RelDs K Z μ S (upd H D o) ds vs
  | _, _, .nil => .nil
  | _, _, .cons a b => .cons (RelD.hidW hD a) (RelDs.hidW hD b)
theorem RelH.hidW {Z : Addr → Prop} {μ : List Addr} {S : Hs} {H : Hp} {D : Addr} {o : HO} (hD : Z D) (r : RelH K Z μ S H) : RelH K Z μ S (upd H D o) := by
  have nD := (r.zt D hD).2
  refine ⟨fun a ha => ⟨?_, (r.zt a ha).2⟩, r.len, r.nd, fun a ha => ?_, fun n u a h1 h2 => ?_⟩
  · by_cases e : a = D
    · subst e; exact ⟨o, upd_same⟩
    · rw [upd_ne e]; exact (r.zt a ha).1
  · have e : a ≠ D := fun e => nD (e ▸ ha)
    rw [upd_ne e]; exact r.tr a ha
  · have e : a ≠ D := fun e => nD (e ▸ List.mem_of_getElem? h2)
    have q := r.ob n u a h1 h2
    cases u with
    | lst ds => obtain ⟨vs, h3, z, rr⟩ := q; exact ⟨vs, by rw [upd_ne e]; exact h3, z, RelDs.hidW hD rr⟩
    | dic _ => exact q
    | gone => trivial
end
section
variable {X : Cx} {C : Calls}
theorem PTs_wk {es : List Expr} {t t' : TT} (h : PTs X es t) (w : ∀ σ H Q, t' σ H Q → t σ H Q) : PTs X es t' := ⟨fun pins s σ H Q I q => h.run pins s σ H Q I (w σ H Q q)⟩
theorem sTs_nil : PTs X [] (tTs X.K (evT C .none)) := PTs_wk pts_nil fun σ H Q ⟨Z, μ, ρ, S, rh, re, o⟩ => Out.ok (Rl := RelB) o rh rfl
theorem sTs_one {c : Expr} {cc : CE} (h : PT X c (tTs X.K (evB C cc))) : PTs X [c] (tTs X.K (evT C (.some cc))) := PTs_wk (pts_one h) fun σ H Q h => h
theorem wipe_none : ∀ (ws : List Nat) (σ : St) (v : Nat), v ∈ ws → (L2.wipe σ ws).set v none = L2.wipe σ ws
  | [], _, _, h => by cases h
  | w :: ws, σ, v, h => by
    unfold L2.wipe
    by_cases e : v = w
    · subst e; rw [List.set_set]
    · have hv : v ∈ ws := by
        rcases List.mem_cons.mp h with z | z
        · exact absurd z e
        · exact z
      rw [List.set_comm _ _ (Ne.symm e), wipe_none ws σ v hv]
theorem wipe_idem (ws : List Nat) (σ : St) : ∀ vs : List Nat, (∀ i ∈ vs, i ∈ ws) → L2.wipe (L2.wipe σ ws) vs = L2.wipe σ ws
  | [], _ => rfl
  | v :: vs, h => by
    show (L2.wipe (L2.wipe σ ws) vs).set v none = L2.wipe σ ws
    rw [wipe_idem ws σ vs fun i hi => h i (List.mem_cons_of_mem _ hi), wipe_none ws σ v (h v (List.mem_cons_self ..))]
/-- the reading of a comprehension -/
theorem comp_rd {t : Tg} {own : List (Str × Nat)} {it : IT} {c : CO} {e : CE} (hix : ∀ i ∈ t.ix, i ∈ own.map (·.2)) {σ : St} {H : Hp} {Q : VK} (h : tE X.K (evE C (.comp e t own it c)) σ H Q) :
    tLc (tI X.K (evI C it)) (gT X.K t) (tTs X.K (evT C c)) (tE X.K (evE C e)) (own.map (·.2)) σ H Q := by
  obtain ⟨Z, μ, ρ, S, rh, re, o⟩ := h
  simp only [evE] at o
  generalize own.map (·.2) = vs at o hix
  refine ⟨Z, μ, ρ, S, rh, re, ?_⟩
  cases ei : evI C it ρ S with
  | no => rw [ei] at o; exact o
  | ex x h' => rw [ei] at o; exact o
  | ok ds S1 =>
    rw [ei] at o
    simp only [R.bind_ok] at o
    intro J μ1 H1 l1 rh1 yy D hD
    have re1 := re.later l1
    -- D is hidden within
    have rhD : RelH X.K (fun a => Z a ∨ a = D) μ1 S1 (upd H1 D (.lst [])) := by
      have r := rh1.fresh hD (.lst [])
      refine ⟨fun a ha => ?_, r.len, r.nd, r.tr, fun n u a h1 h2 => ?_⟩
      · rcases ha with z | rfl
        · exact r.zt a z
        · exact ⟨⟨_, upd_same⟩, rh1.notin hD⟩
      · have q := rh1.ob n u a h1 h2
        cases u with
        | lst ds =>
          obtain ⟨ws, h3, z, rr⟩ := q
          refine ⟨ws, by rw [upd_ne (ne_of_none h3 hD)]; exact h3, z, ?_⟩
          have : ∀ {ds : List LC.D} {ws : List V}, RelDs X.K Z μ1 S1 H1 ds ws → RelDs X.K (fun a => Z a ∨ a = D) μ1 S1 (upd H1 D (.lst [])) ds ws := fun {ds ws} r => by
            induction r with
            | nil => exact .nil
            | cons a b ih => exact .cons (RelD.hide (later_fresh hD _) (fun a ha hn => by rcases ha with z | rfl; exact absurd z hn; exact hD) a) ih
          exact this rr
        | dic _ => exact q
        | gone => trivial
    have lD : Later μ1 S1 H1 μ1 S1 (upd H1 D (.lst [])) := later_fresh hD _
    have hzz : ∀ a, (Z a ∨ a = D) → ¬ Z a → H1 a = none := fun a ha hn => by
      rcases ha with z | rfl
      · exact absurd z hn
      · exact hD
    let bnd := fun d => bindT t d (wipeE ρ vs)
    let Inv0 : Nat → Hp → Prop := fun i H' => i ≤ ds.length ∧ ∃ μ' S' accV accP, Later μ1 S1 H1 μ' S' H' ∧ RelH X.K (fun a => Z a ∨ a = D) μ' S' H' ∧ H' D = some (.lst accV) ∧ RpAll X.K H' (Lv (fun a => Z a ∨ a = D) μ' S') accV accP ∧ accP.length ≤ i ∧
      (match (compL bnd (fun ρ' h' => evT C c ρ' h') (fun ρ' h' => evE C e ρ' h') (ds.drop i) S') with
        | .ok ps S2 => Out X.K Z (RelD X.K Z) μ S H (.ok (dL (accP ++ ps)) S2) Q
        | _ => False)
    refine ⟨fun i m H' => m = ds.length - i ∧ Inv0 i H', ⟨ds.length, by simp, Nat.zero_le _, μ1, S1, [], [], ?_, rhD, upd_same, .nil, Nat.zero_le _, ?_⟩, ?_⟩
    · exact lD
    · cases ec : compL bnd (fun ρ' h' => evT C c ρ' h') (fun ρ' h' => evE C e ρ' h') (ds.drop 0) S1 with
      | no => simp only [List.drop_zero] at ec; rw [show compL (fun d => bindT t d (wipeE ρ vs)) (fun ρ' h' => evT C c ρ' h') (fun ρ' h' => evE C e ρ' h') ds S1 = .no from ec] at o; exact o
      | ex x h' => simp only [List.drop_zero] at ec; rw [show compL (fun d => bindT t d (wipeE ρ vs)) (fun ρ' h' => evT C c ρ' h') (fun ρ' h' => evE C e ρ' h') ds S1 = .ex x h' from ec] at o; exact o
      | ok ps S2 => simp only [List.drop_zero] at ec; rw [show compL (fun d => bindT t d (wipeE ρ vs)) (fun ρ' h' => evT C c ρ' h') (fun ρ' h' => evE C e ρ' h') ds S1 = .ok ps S2 from ec] at o; simpa using o
    rintro i m H' ⟨rfl, hi, μ', S', accV, accP, l', rh', hD', ra, hal, oc⟩
    have Y := yy (fun a => Z a ∨ a = D) μ' S' H' l' rh' (fun a z => .inl z) hzz
    have re' : RelE X.K (fun a => Z a ∨ a = D) μ' S' H' (wipeE ρ vs) (L2.wipe σ vs) := (RelE.hide l' hzz re1).wipe vs
    by_cases hlt : i < ds.length
    · refine .inr ?_
      have hd : ds[i]? = some ds[i] := List.getElem?_eq_getElem hlt
      obtain ⟨go, yl⟩ := Y.go i ds[i] μ' S' H' hd (Later.refl _ _ _) rh'
      refine ⟨go, Inv0 (i + 1), fun H2 q => ⟨ds.length - (i + 1), by omega, rfl, q⟩, fun x H'' hy => ?_⟩
      obtain ⟨ly, rhy, rdy⟩ := yl x H'' hy
      rw [List.drop_eq_getElem_cons hlt] at oc
      simp only [compL] at oc
      cases eb : bnd ds[i] with
      | none => simp only [eb] at oc
      | some ρ2 =>
        simp only [eb] at oc
        refine ⟨_, μ', wipeE ρ vs, S', ds[i], ρ2, rhy, re'.later ly, rdy, eb, fun σ2 re2 ch => ⟨(ch vs hix).trans (wipe_idem vs σ vs fun _ h => h), ?_⟩⟩
        refine ⟨_, μ', ρ2, S', rhy, re2, ?_⟩
        cases et : evT C c ρ2 S' with
        | no => simp only [et] at oc
        | ex y h' => simp only [et] at oc
        | ok b S3 =>
          intro b' μ3 H3 l3 rh3 eb'
          cases eb'
          have keepD : ∀ {μa Sa Ha μb Sb Hb} {w : List V}, Later μa Sa Ha μb Sb Hb → RelH X.K (fun a => Z a ∨ a = D) μa Sa Ha → Ha D = some (.lst w) → Hb D = some (.lst w) := fun {μa Sa Ha μb Sb Hb w} l r hh => (l.keep D _ hh fun ⟨n, o, h1, _, _⟩ => (r.zt D (.inr rfl)).2 (List.mem_of_getElem? h1)).1
          have l3' := (l'.trans ly).trans l3
          have hD3 := keepD (ly.trans l3) rh' hD'
          cases b with
          | false =>
            simp only [et] at oc
            simp only [Bool.false_eq_true, if_false]
            exact ⟨hlt, μ3, S3, accV, accP, l3', rh3, hD3, RpAll.later (ly.trans l3) ra, by omega, oc⟩
          | true =>
            simp only [et] at oc
            simp only [if_true]
            refine ⟨_, μ3, ρ2, S3, rh3, re2.later l3, ?_⟩
            cases ee : evE C e ρ2 S3 with
            | no => simp only [ee] at oc
            | ex y h' => simp only [ee] at oc
            | ok d S4 =>
              cases d with
              | ref n => simp only [ee] at oc
              | scr ns => simp only [ee] at oc
              | dat p =>
                simp only [ee] at oc
                intro y μ4 H4 l4 rh4 r4
                have hD4 := keepD l4 rh3 hD3
                have ra4 := RpAll.later ((ly.trans l3).trans l4) ra
                have hl2 := ra.length
                refine ⟨accV, hD4, by have := Y.len; omega, hlt, μ4, S4, accV ++ [y], accP ++ [p], ?_, rh4.hidW (.inr rfl), upd_same, ?_, by rw [List.length_append]; simp; omega, ?_⟩
                · have l5 := l3'.trans l4
                  refine ⟨l5.pre, fun a o h n => ?_⟩
                  have q := l5.keep a o h n
                  exact ⟨by rw [upd_ne (ne_of_none h hD)]; exact q.1, q.2⟩
                · exact RpAll.hidW (.inr (.inr rfl)) (ra4.append (.cons r4 .nil))
                · cases ec : compL bnd (fun ρ' h' => evT C c ρ' h') (fun ρ' h' => evE C e ρ' h') (ds.drop (i + 1)) S4 with
                  | no => rw [ec] at oc; exact oc
                  | ex y h' => rw [ec] at oc; exact oc
                  | ok ps S5 =>
                    rw [ec] at oc
                    simp only [R.bind_ok] at oc
                    simpa using oc
    · refine .inl ⟨Y.stop i μ' S' H' (by omega) (Later.refl _ _ _) rh', ?_⟩
      have e : i = ds.length := by omega
      subst e
      rw [List.drop_length] at oc
      simp only [compL, List.append_nil] at oc
      have hal' : accP.length ≤ sizeLine := Nat.le_trans hal Y.len
      have un : ∀ a, Z a → Z a ∨ a = D := fun a z => .inl z
      refine oc (.ref D) μ' H' (l1.trans l') (rh'.unhide un) (Rp.lst ⟨.inl hD', fun z => ?_⟩ hal' (RpAll.unhide (fun a y => y.elim .inl fun z => .inr (.inl z)) ra))
      have nD := rh'.zt D (.inr rfl)
      rcases z with ⟨n, o, h1, _, _⟩ | z
      · exact nD.2 (List.mem_of_getElem? h1)
      · obtain ⟨⟨o, e⟩, _⟩ := rh1.zt D z
        rw [hD] at e
        cases e
theorem sE_comp {elt tg iter : Expr} {ifs : List Expr} {scope : Scope} {own : List (Str × Nat)} {pos : Pos} {t : Tg} {it : IT} {c : CO} {e : CE} (hc : X.calm = true) (hN : X.N.Nodup) (hi : PI X tg iter (tI X.K (evI C it))) (ok : BlkOk X.N X.env.scope scope own) (hix : ∀ i ∈ t.ix, i ∈ own.map (·.2))
    (hg : ∀ (s : Shared) (H : Hp) (Cc : Addr) (cl : List (Str × Addr)) (fp : List Addr), PG (X.blk s H scope (compEnvC scope cl Cc X.env) fp) tg (gT X.K t)) (ht : ∀ (s : Shared) (H : Hp) (Cc : Addr) (cl : List (Str × Addr)) (fp : List Addr), PTs (X.blk s H scope (compEnvC scope cl Cc X.env) fp) ifs (tTs X.K (evT C c)))
    (he : ∀ (s : Shared) (H : Hp) (Cc : Addr) (cl : List (Str × Addr)) (fp : List Addr), PE (X.blk s H scope (compEnvC scope cl Cc X.env) fp) elt (tE X.K (evE C e))) (hs : ∀ x, foldedSetIterable iter X.env x = pure x) :
    PE X (.ListComp elt [⟨tg, iter, ifs, 0⟩] scope pos) (tE X.K (evE C (.comp e t own it c))) :=
  PE_wk (pe_lc hc hN hi ok hg ht he hs) fun σ H Q h => comp_rd hix h
end
end L2.LC

/-! LC: statements, tables, calls. -/
namespace L2.LC
open PySem PySem.Spec PyProof.Rows
/-- a flow is as wanted -/
def OutF (K : PySem.W.Frag) (Z : Addr → Prop) (μ : List Addr) (S : Hs) (H : Hp) (r : R Fl) (E : Ends) : Prop :=
  match r with
  | .ok (.nx ρ) S' => ∀ σ' μ' H', Later μ S H μ' S' H' → RelH K Z μ' S' H' → RelE K Z μ' S' H' ρ σ' → E.nx σ' H'
  | .ok (.rt d) S' => ∀ v μ' H', Later μ S H μ' S' H' → RelH K Z μ' S' H' → RelD K Z μ' S' H' d v → E.rt v H'
  | .ok (.bk ρ) S' => ∀ σ' μ' H', Later μ S H μ' S' H' → RelH K Z μ' S' H' → RelE K Z μ' S' H' ρ σ' → E.bk σ' H'
  | .ok (.ct ρ) S' => ∀ σ' μ' H', Later μ S H μ' S' H' → RelH K Z μ' S' H' → RelE K Z μ' S' H' ρ σ' → E.ct σ' H'
  | .ex _ _ => False
  | .no => False
def tF (K : PySem.W.Frag) (m : En → Hs → R Fl) : TS := fun E σ H => ∃ Z μ ρ S, RelH K Z μ S H ∧ RelE K Z μ S H ρ σ ∧ OutF K Z μ S H (m ρ S) E
section
variable {K : PySem.W.Frag} {Z : Addr → Prop} {μ μ1 : List Addr} {S S1 : Hs} {H H1 : Hp} {α β : Type} {Rl : List Addr → Hs → Hp → α → β → Prop}
theorem OutF.later {r : R Fl} {E : Ends} (h : OutF K Z μ S H r E) (l : Later μ S H μ1 S1 H1) : OutF K Z μ1 S1 H1 r E := by
  cases r with
  | ok a S' => cases a <;> exact fun v μ' H' l' => h v μ' H' (l.trans l')
  | ex x S' => exact h
  | no => exact h
theorem OutF.bind {r : R α} {f : α → Hs → R Fl} {E : Ends} {Q' : β → Hp → Prop} (h : OutF K Z μ S H (r.bind f) E)
    (k : ∀ a S1 v μ1 H1, r = .ok a S1 → Later μ S H μ1 S1 H1 → RelH K Z μ1 S1 H1 → Rl μ1 S1 H1 a v → OutF K Z μ1 S1 H1 (f a S1) E → Q' v H1) : Out K Z Rl μ S H r Q' := by
  cases r with
  | ok a S' => exact fun v μ' H' l rh rv => k a S' v μ' H' rfl l rh rv (OutF.later (show OutF K Z μ S H (f a S') E from h) l)
  | ex x S' => exact h
  | no => exact h
theorem OutF.nx {ρ : En} {σ : St} {E : Ends} (h : OutF K Z μ S H (.ok (.nx ρ) S) E) (rh : RelH K Z μ S H) (re : RelE K Z μ S H ρ σ) : E.nx σ H := h σ μ H (Later.refl _ _ _) rh re
end
section
variable {X : Cx} {C : Calls}
def isComp : Expr → Bool
  | .ListComp .. => true
  | .SetComp .. => true
  | .DictComp .. => true
  | _ => false
theorem sw_false {e : Expr} {t : Option Expr} {l : Nat} {env : Env} (h : isComp e = false) : swapsWith e t l env = pure false := by
  cases e <;> first | rfl | (simp [isComp] at h)
theorem sS_nil : PSs X [] (tF X.K (evSs C .nil)) := PSs_wk pss_nil fun E σ H ⟨Z, μ, ρ, S, rh, re, o⟩ => OutF.nx o rh re
theorem sS_cons {st : Stmt} {rest : List Stmt} {c : CS} {cs : CSs} (h : PS X st (tF X.K (evS C c))) (hs : PSs X rest (tF X.K (evSs C cs))) : PSs X (st :: rest) (tF X.K (evSs C (.cons c cs))) := by
  refine PSs_wk (pss_cons h hs) fun E σ H ⟨Z, μ, ρ, S, rh, re, o⟩ => ?_
  simp only [evSs] at o
  refine ⟨Z, μ, ρ, S, rh, re, ?_⟩
  cases e : evS C c ρ S with
  | no => rw [e] at o; exact o
  | ex x h' => rw [e] at o; exact o
  | ok fl S1 =>
    rw [e] at o
    simp only [R.bind_ok] at o
    cases fl with
    | nx ρ1 => exact fun σ' μ' H' l rh' re' => ⟨Z, μ', ρ1, S1, rh', re', OutF.later o l⟩
    | rt d => exact o
    | bk ρ1 => exact o
    | ct ρ1 => exact o
theorem sS_ret {e : Expr} {c : CE} {pos : Pos} (h : PE X e (tE X.K (evE C c))) : PS X (.Return (some e) pos) (tF X.K (evS C (.ret c))) := by
  refine PS_wk (ps_ret h) fun E σ H ⟨Z, μ, ρ, S, rh, re, o⟩ => ?_
  simp only [evS] at o
  exact ⟨Z, μ, ρ, S, rh, re, o.bind fun d S1 v μ1 H1 _ l1 rh1 r1 o1 => o1 v μ1 H1 (Later.refl _ _ _) rh1 r1⟩
theorem sS_drop {e : Expr} {c : CE} {pos : Pos} (h : PE X e (tE X.K (evE C c))) (hc : isComp e = false) : PS X (.Expr e pos) (tF X.K (evS C (.drop c))) := by
  refine PS_wk (ps_expr h (sw_false hc)) fun E σ H ⟨Z, μ, ρ, S, rh, re, o⟩ => ?_
  simp only [evS] at o
  exact ⟨Z, μ, ρ, S, rh, re, o.bind fun d S1 v μ1 H1 _ l1 rh1 r1 o1 => OutF.nx o1 rh1 (re.later l1)⟩
theorem sS_never {st : Stmt} : PS X st (tF X.K (evS C .never)) := PS_wk ps_never fun E σ H ⟨Z, μ, ρ, S, rh, re, o⟩ => o
theorem sS_cond {c : Expr} {a b : List Stmt} {cc : CE} {ca cb : CSs} {pos : Pos} (hc : PT X c (tTs X.K (evB C cc))) (ha : PSs X a (tF X.K (evSs C ca))) (hb : PSs X b (tF X.K (evSs C cb))) : PS X (.If c a b pos) (tF X.K (evS C (.cond cc ca cb))) := by
  refine PS_wk (ps_if hc ha hb) fun E σ H ⟨Z, μ, ρ, S, rh, re, o⟩ => ?_
  simp only [evS] at o
  refine ⟨Z, μ, ρ, S, rh, re, o.bind (Rl := RelB) fun t S1 v μ1 H1 _ l1 rh1 r1 o1 => ?_⟩
  cases r1
  cases t with
  | true => simp only [if_true] at o1 ⊢; exact ⟨Z, μ1, ρ, S1, rh1, re.later l1, o1⟩
  | false => simp only [Bool.false_eq_true, if_false] at o1 ⊢; exact ⟨Z, μ1, ρ, S1, rh1, re.later l1, o1⟩
/-- target = value -/
theorem asg_rd {t : Tg} {c : CE} {E : Ends} {σ : St} {H : Hp} (h : tF X.K (evS C (.asg t c)) E σ H) : tAsg (tE X.K (evE C c)) (gT X.K t) E σ H := by
  obtain ⟨Z, μ, ρ, S, rh, re, o⟩ := h
  simp only [evS] at o
  refine ⟨Z, μ, ρ, S, rh, re, o.bind fun d S1 v μ1 H1 _ l1 rh1 r1 o1 => ?_⟩
  cases e : bindT t d ρ with
  | none => rw [e] at o1; exact o1.elim
  | some ρ' =>
    rw [e] at o1
    exact ⟨Z, μ1, ρ, S1, d, ρ', rh1, re.later l1, r1, e, fun σ' re' _ => OutF.nx o1 rh1 re'⟩
theorem asgN_rd {i : Nat} {c : CE} {E : Ends} {σ : St} {H : Hp} (h : tF X.K (evS C (.asg (.name i) c)) E σ H) : tAsg (tE X.K (evE C c)) (gName i) E σ H := by
  obtain ⟨Z, μ, ρ, S, rh, re, o⟩ := h
  simp only [evS, bindT, Option.map_some, R.of_some] at o
  exact ⟨Z, μ, ρ, S, rh, re, o.bind fun d S1 v μ1 H1 _ l1 rh1 r1 o1 => OutF.nx o1 rh1 ((re.later l1).set i r1)⟩
theorem sS_set {i : Nat} {x : Str} {e : Expr} {c : CE} {pos pos' : Pos} (hN : X.N.Nodup) (hi : X.N[i]? = some x) (hx : Loc X.env.scope x) (hf : X.fn x = true ∨ X.env.scope.names.lookup x = some .local) (he : PE X e (tE X.K (evE C c))) (hs : swapsWith e (some (.Name x pos')) pos.line X.env = pure false) :
    PS X (.Assign [.Name x pos'] e pos) (tF X.K (evS C (.asg (.name i) c))) := PS_wk (ps_set hN hi hx he hs hf) fun E σ H h => asgN_rd h
theorem sS_setLc {i : Nat} {y : Str} {py : Pos} {elt tg iter : Expr} {ifs : List Expr} {scope : Scope} {own : List (Str × Nat)} {pos spos : Pos} {t : Tg} {it : IT} {c : CO} {e : CE} (hc : X.calm = true) (hN : X.N.Nodup) (hy : X.N[i]? = some y) (hyl : X.env.scope.names.lookup y = some .local)
    (hsw : swapsWith (.ListComp elt [⟨tg, iter, ifs, 0⟩] scope pos) (some (.Name y py)) spos.line X.env = pure true) (hi : PI X tg iter (tI X.K (evI C it))) (ok : BlkOk X.N X.env.scope scope own) (hix : ∀ i ∈ t.ix, i ∈ own.map (·.2))
    (hg : ∀ (s : Shared) (H : Hp) (Cc : Addr) (cl : List (Str × Addr)) (fp : List Addr), PG (X.blk s H scope (compEnvC scope cl Cc X.env) fp) tg (gT X.K t)) (ht : ∀ (s : Shared) (H : Hp) (Cc : Addr) (cl : List (Str × Addr)) (fp : List Addr), PTs (X.blk s H scope (compEnvC scope cl Cc X.env) fp) ifs (tTs X.K (evT C c)))
    (he : ∀ (s : Shared) (H : Hp) (Cc : Addr) (cl : List (Str × Addr)) (fp : List Addr), PE (X.blk s H scope (compEnvC scope cl Cc X.env) fp) elt (tE X.K (evE C e))) (hs : ∀ x, foldedSetIterable iter X.env x = pure x) :
    PS X (.Assign [.Name y py] (.ListComp elt [⟨tg, iter, ifs, 0⟩] scope pos) spos) (tF X.K (evS C (.asg (.name i) (.comp e t own it c)))) := by
  refine PS_wk (ps_setLc hc hN hy hyl hsw hi ok hg ht he hs) fun E σ H h => ?_
  have q := asgN_rd h
  exact comp_rd hix q
theorem sS_asg {tg e : Expr} {t : Tg} {c : CE} {pos : Pos} (he : PE X e (tE X.K (evE C c))) (hg : PG X tg (gT X.K t)) (hs : swapsWithSole [tg] e pos.line X.env = pure false) (hw : swappedStores [tg] e X.env = pure none) (h1 : (assignEach [tg] X.env).map (·.2) = [assign tg X.env]) :
    PS X (.Assign [tg] e pos) (tF X.K (evS C (.asg t c))) := PS_wk (ps_asg he hg hs hw h1) fun E σ H h => asg_rd h
theorem sS_par {i j : Nat} {x y : Str} {a b : Expr} {ca cb : CE} {px py pt pos : Pos} {kt k2 : Nat} {pt2 : Pos} (hc : X.calm = true) (hN : X.N.Nodup) (hi : X.N[i]? = some x) (hj : X.N[j]? = some y) (hij : i ≠ j) (hx : X.env.scope.names.lookup x = some .local) (hy : X.env.scope.names.lookup y = some .local)
    (ha : PE X a (tE X.K (evE C ca))) (hb : PE X b (tE X.K (evE C cb))) (hsa : notStar a = true) (hsb : notStar b = true)
    (hw : swappedStores [.Tuple [.Name x px, .Name y py] kt pt] (.Tuple [a, b] k2 pt2) X.env = pure (some [x, y])) :
    PS X (.Assign [.Tuple [.Name x px, .Name y py] kt pt] (.Tuple [a, b] k2 pt2) pos) (tF X.K (evS C (.par i j ca cb))) := by
  refine PS_wk (ps_par hc hN hi hj hij hx hy (PA2 ha hb hsa hsb) hw) fun E σ H ⟨Z, μ, ρ, S, rh, re, o⟩ => ?_
  simp only [evS] at o
  refine ⟨Z, μ, ρ, S, rh, re, o.bind fun d S1 v μ1 H1 _ l1 rh1 r1 o1 => ?_⟩
  refine ⟨Z, μ1, ρ, S1, rh1, re.later l1, o1.bind fun d2 S2 v2 μ2 H2 _ l2 rh2 r2 o2 => ?_⟩
  exact ⟨v, v2, rfl, OutF.nx o2 rh2 ((((re.later l1).later l2).set i (r1.later l2)).set j r2)⟩
theorem sS_par3 {i j l : Nat} {x y z : Str} {a b c : Expr} {ca cb cc : CE} {px py pz pt pos : Pos} {kt k2 : Nat} {pt2 : Pos} (hc : X.calm = true) (hN : X.N.Nodup) (hi : X.N[i]? = some x) (hj : X.N[j]? = some y) (hl : X.N[l]? = some z) (hij : i ≠ j) (hil : i ≠ l) (hjl : j ≠ l)
    (hx : X.env.scope.names.lookup x = some .local) (hy : X.env.scope.names.lookup y = some .local) (hz : X.env.scope.names.lookup z = some .local)
    (ha : PE X a (tE X.K (evE C ca))) (hb : PE X b (tE X.K (evE C cb))) (hcc : PE X c (tE X.K (evE C cc))) (hsa : notStar a = true) (hsb : notStar b = true) (hsc : notStar c = true)
    (hw : swappedStores [.Tuple [.Name x px, .Name y py, .Name z pz] kt pt] (.Tuple [a, b, c] k2 pt2) X.env = pure (some [x, y, z])) :
    PS X (.Assign [.Tuple [.Name x px, .Name y py, .Name z pz] kt pt] (.Tuple [a, b, c] k2 pt2) pos) (tF X.K (evS C (.par3 i j l ca cb cc))) := by
  refine PS_wk (ps_par3 hc hN hi hj hl hij hil hjl hx hy hz (pa_cons ha (PA2 hb hcc hsb hsc) (star_cons hsa)) hw) fun E σ H ⟨Z, μ, ρ, S, rh, re, o⟩ => ?_
  simp only [evS] at o
  refine ⟨Z, μ, ρ, S, rh, re, o.bind fun d S1 v μ1 H1 _ l1 rh1 r1 o1 => ?_⟩
  refine ⟨Z, μ1, ρ, S1, rh1, re.later l1, o1.bind fun d2 S2 v2 μ2 H2 _ l2 rh2 r2 o2 => ?_⟩
  refine ⟨Z, μ2, ρ, S2, rh2, (re.later l1).later l2, o2.bind fun d3 S3 v3 μ3 H3 _ l3 rh3 r3 o3 => ?_⟩
  exact ⟨v, v2, v3, rfl, OutF.nx o3 rh3 ((((((re.later l1).later l2).later l3).set i ((r1.later l2).later l3)).set j (r2.later l3)).set l r3)⟩
/-! ### xs.append(e) -/
theorem RelH.write {K : PySem.W.Frag} {Z : Addr → Prop} {μ : List Addr} {S : Hs} {H : Hp} (rh : RelH K Z μ S H) {n : Nat} {a : Addr} {o o' : Ob} {u : HO} (hs : S[n]? = some o) (hl : o.live = true) (hl' : o'.live = true) (hm : μ[n]? = some a) (ho : ObR K Z μ (S.set n o') (upd H a u) o' a) :
    Later μ S H μ (S.set n o') (upd H a u) ∧ RelH K Z μ (S.set n o') (upd H a u) := by
  have hn : n < S.length := (List.getElem?_eq_some_iff.mp hs).1
  have live : ∀ b, Live μ (S.set n o') b → Live μ S b := fun b ⟨m, w, h1, h2, h3⟩ => by
    by_cases e : m = n
    · subst e
      exact ⟨m, o, h1, hs, hl⟩
    · rw [List.getElem?_set_ne (Ne.symm e)] at h2
      exact ⟨m, w, h1, h2, h3⟩
  have lv : Live μ S a := ⟨n, o, hm, hs, hl⟩
  have l : Later μ S H μ (S.set n o') (upd H a u) := ⟨⟨[], by simp⟩, fun b w h nl => ⟨by rw [upd_ne (show b ≠ a from fun e => nl (by rw [e]; exact lv))]; exact h, fun z => nl (live b z)⟩⟩
  refine ⟨l, ⟨fun b hb => ?_, by simp [rh.len], rh.nd, fun b hb => ?_, fun m w b h1 h2 => ?_⟩⟩
  · obtain ⟨⟨w, e⟩, nb⟩ := rh.zt b hb
    have ne : b ≠ a := fun e => nb (e ▸ List.mem_of_getElem? hm)
    exact ⟨⟨w, by rw [upd_ne ne]; exact e⟩, nb⟩
  · by_cases e : b = a
    · subst e; exact ⟨u, upd_same⟩
    · rw [upd_ne e]; exact rh.tr b hb
  · by_cases e : m = n
    · subst e
      rw [List.getElem?_set_self hn] at h1
      cases h1
      rw [hm] at h2
      cases h2
      exact ho
    · rw [List.getElem?_set_ne (Ne.symm e)] at h1
      have ne : b ≠ a := by
        rintro rfl
        obtain ⟨g1, e1⟩ := List.getElem?_eq_some_iff.mp h2
        obtain ⟨g2, e2⟩ := List.getElem?_eq_some_iff.mp hm
        exact e ((List.getElem_inj rh.nd).mp (e1.trans e2.symm))
      exact (rh.ob m w b h1 h2).later l fun z q => by rw [upd_ne ne]; exact q
def notSuper : Expr → Bool
  | .Call .. => false
  | _ => true
theorem base_ok {o : Expr} {a : Str} {env : Env} (h : notSuper o = true) : attributeBase o a env (eval o env) = eval o env := by
  cases o <;> first | rfl | (simp [notSuper] at h)
theorem few_ok {e : Expr} {env : Env} {cpos : Pos} (h : notStar e = true) : ((backTo cpos (starEach [e] env)).all (fun x => !x.1) && (backToKw cpos (keywordEach [] env)).all (fun x => x.1.isSome)
      && decide (([e] : List Expr).length + ([] : List Keyword).length + (if ([] : List Keyword).isEmpty then 0 else 1) < 30)) = true := by
  rw [star_cons h]
  rfl
theorem sS_app {o e : Expr} {co ce : CE} {apos cpos pos : Pos} (ho : PE X o (tE X.K (evE C co))) (he : PE X e (tE X.K (evE C ce))) (hso : notSuper o = true) (hse : notStar e = true) (hline : (apos.endLine == cpos.line) = true) :
    PS X (.Expr (.Call (.Attribute o "append" apos) [e] [] cpos) pos) (tF X.K (evS C (.app co ce))) := by
  refine PS_wk (ps_expr (pe_bm PySem.F.plainAttrs_list PySem.F.slot_list_append PySem.F.type_list_append mt_append ho (PA1 he hse) (base_ok hso) (few_ok hse) hline (star_cons hse) (by rfl)) rfl) fun E σ H ⟨Z, μ, ρ, S, rh, re, oo⟩ => ?_
  simp only [evS] at oo
  refine ⟨Z, μ, ρ, S, rh, re, oo.bind fun d S1 v μ1 H1 _ l1 rh1 r1 o1 => ?_⟩
  cases en : lstAt S1 d with
  | none => simp only [en] at o1; exact o1.elim
  | some n =>
    simp only [en] at o1
    cases d with
    | dat p => simp [lstAt] at en
    | scr ns => simp [lstAt] at en
    | ref m =>
      obtain ⟨a, rfl, ha⟩ := r1
      simp only [lstAt] at en
      split at en
      · rename_i xs0 hx0
        have en' := Option.some.inj en
        subst en'
        obtain ⟨vs0, g1, g2, g3⟩ := rh1.ob m _ a hx0 ha
        refine ⟨.inl ⟨rfl, vs0, .inl (.inl g1)⟩, Z, μ1, ρ, S1, rh1, re.later l1, ?_⟩
        refine o1.bind fun y S2 w μ2 H2 _ l2 rh2 r2 o2 => ?_
        unfold appAt at o2
        split at o2
        · rename_i xs hx
          split at o2
          · rename_i hz
            obtain ⟨vs, h1, h2, h3⟩ := rh2.ob m _ a hx (l2.at ha)
            have hm := l2.at ha
            refine ⟨a, vs, w, rfl, rfl, h1, by rw [← h3.length]; exact hz, ?_⟩
            -- the list is longer
            have l3 : Later μ2 S2 H2 μ2 (S2.set m (.lst (xs ++ [y]))) (upd H2 a (.lst (vs ++ [w]))) := by
              have lv : Live μ2 S2 a := ⟨m, _, hm, hx, rfl⟩
              refine ⟨⟨[], by simp⟩, fun b u h nl => ⟨by rw [upd_ne (show b ≠ a from fun e => nl (by rw [e]; exact lv))]; exact h, fun ⟨k, u', q1, q2, q3⟩ => ?_⟩⟩
              by_cases e : k = m
              · subst e
                rw [hm] at q1
                cases q1
                exact nl lv
              · rw [List.getElem?_set_ne (Ne.symm e)] at q2
                exact nl ⟨k, u', q1, q2, q3⟩
            have k := rh2.write (o' := .lst (xs ++ [y])) (u := .lst (vs ++ [w])) hx rfl rfl hm ⟨vs ++ [w], upd_same, by rw [List.length_append]; simp; omega, Paired.snoc (RelDs.later l3 h3) (r2.later l3)⟩
            exact o2 σ μ2 _ k.1 k.2 (((re.later l1).later l2).later k.1)
          · exact o2.elim
        · exact o2.elim
      · cases en
end
end L2.LC

/-! LC: loops, tables, calls, defs. -/
namespace L2.LC
open PySem PySem.Spec PyProof.Rows
section
variable {X : Cx} {C : Calls}
theorem sS_for {tg iter : Expr} {body : List Stmt} {t : Tg} {it : IT} {b : CSs} {pos : Pos} (hp : PassesOwn (model X.prog X.w) X.A X.env X.xe) (hc : X.calm = true) (hi : PI X tg iter (tI X.K (evI C it))) (hg : PG X tg (gT X.K t)) (hb : PSs X body (tF X.K (evSs C b)))
    (hs : ∀ x, foldedSetIterable iter X.env x = pure x) : PS X (.For tg iter body [] pos) (tF X.K (evS C (.loop t it b))) := by
  refine PS_wk (ps_for hp hc hi hg hb hs) fun E σ H ⟨Z, μ, ρ, S, rh, re, o⟩ => ?_
  simp only [evS] at o
  refine ⟨Z, μ, ρ, S, rh, re, ?_⟩
  cases ei : evI C it ρ S with
  | no => rw [ei] at o; exact o
  | ex x h' => rw [ei] at o; exact o
  | ok ds S1 =>
    rw [ei] at o
    simp only [R.bind_ok] at o
    intro J μ1 H1 l1 rh1 yy
    have Y := yy Z μ1 S1 H1 (Later.refl _ _ _) rh1 (fun a z => z) (fun a z n => absurd z n)
    let Inv0 : Nat → St → Hp → Prop := fun i σ' H' => i ≤ ds.length ∧ ∃ μ' ρ' S', Later μ1 S1 H1 μ' S' H' ∧ RelH X.K Z μ' S' H' ∧ RelE X.K Z μ' S' H' ρ' σ' ∧ OutF X.K Z μ' S' H' (forL (fun d ρ => bindT t d ρ) (fun ρ h => evSs C b ρ h) (ds.drop i) ρ' S') E
    refine ⟨fun i m σ' H' => m = ds.length - i ∧ Inv0 i σ' H', ⟨ds.length, by simp, Nat.zero_le _, μ1, ρ, S1, Later.refl _ _ _, rh1, re.later l1, by simpa using o.later l1⟩, ?_⟩
    rintro i m σ' H' ⟨rfl, hi, μ', ρ', S', l', rh', re', o'⟩
    by_cases hlt : i < ds.length
    · refine .inr ?_
      have hd : ds[i]? = some ds[i] := List.getElem?_eq_getElem hlt
      obtain ⟨go, yl⟩ := Y.go i ds[i] μ' S' H' hd l' rh'
      refine ⟨go, Inv0 (i + 1), fun σ2 H2 q => ⟨ds.length - (i + 1), by omega, rfl, q⟩, fun x H'' hy => ?_⟩
      obtain ⟨ly, rhy, rdy⟩ := yl x H'' hy
      rw [List.drop_eq_getElem_cons hlt] at o'
      simp only [forL] at o'
      cases eb : bindT t ds[i] ρ' with
      | none => simp only [eb] at o'; exact o'.elim
      | some ρ2 =>
        simp only [eb] at o'
        refine ⟨Z, μ', ρ', S', ds[i], ρ2, rhy, re'.later ly, rdy, eb, fun σ2 re2 _ => ?_⟩
        refine ⟨Z, μ', ρ2, S', rhy, re2, ?_⟩
        have o2 := o'.later ly
        cases ec : evSs C b ρ2 S' with
        | no => rw [ec] at o2; exact o2
        | ex y h' => rw [ec] at o2; exact o2
        | ok fl S2 =>
          rw [ec] at o2
          simp only [R.bind_ok] at o2
          cases fl with
          | nx ρ3 => exact fun σ3 μ3 H3 l3 rh3 re3 => ⟨hlt, μ3, ρ3, S2, (l'.trans ly).trans l3, rh3, re3, o2.later l3⟩
          | ct ρ3 => exact fun σ3 μ3 H3 l3 rh3 re3 => ⟨hlt, μ3, ρ3, S2, (l'.trans ly).trans l3, rh3, re3, o2.later l3⟩
          | bk ρ3 => exact fun σ3 μ3 H3 l3 rh3 re3 => o2 σ3 μ3 H3 l3 rh3 re3
          | rt d => exact fun v μ3 H3 l3 rh3 r3 => o2 v μ3 H3 l3 rh3 r3
    · refine .inl ⟨Y.stop i μ' S' H' (by omega) l' rh', ?_⟩
      rw [List.drop_eq_nil_of_le (by omega)] at o'
      simp only [forL] at o'
      exact OutF.nx o' rh' re'
theorem sS_whl {c : Expr} {body : List Stmt} {cc : CE} {b : CSs} {pos : Pos} (hp : PassesOwn (model X.prog X.w) X.A X.env X.xe) (hc : PT X c (tTs X.K (evB C cc))) (hb : PSs X body (tF X.K (evSs C b))) : PS X (.While c body [] pos) (tF X.K (evS C (.whl cc b))) := by
  refine PS_wk (ps_while hp hc hb) fun E σ H ⟨Z, μ, ρ, S, rh, re, o⟩ => ?_
  simp only [evS] at o
  refine ⟨fun m σ' H' => ∃ Z μ' ρ' S', RelH X.K Z μ' S' H' ∧ RelE X.K Z μ' S' H' ρ' σ' ∧ OutF X.K Z μ' S' H' (whlL (fun ρ h => asB (evE C cc ρ h)) (fun ρ h => evSs C b ρ h) m ρ' S') E, ⟨turns, Z, μ, ρ, S, rh, re, o⟩, ?_⟩
  rintro m σ' H' ⟨Z, μ', ρ', S', rh', re', o'⟩
  cases m with
  | zero => exact o'.elim
  | succ m =>
    simp only [whlL] at o'
    refine ⟨Z, μ', ρ', S', rh', re', o'.bind (Rl := RelB) fun t S1 v μ1 H1 _ l1 rh1 r1 o1 => ?_⟩
    cases r1
    cases t with
    | false => simp only [Bool.false_eq_true, if_false] at o1 ⊢; exact OutF.nx o1 rh1 (re'.later l1)
    | true =>
      simp only [if_true] at o1 ⊢
      refine ⟨fun σ2 H2 => ∃ Z μ' ρ' S', RelH X.K Z μ' S' H2 ∧ RelE X.K Z μ' S' H2 ρ' σ2 ∧ OutF X.K Z μ' S' H2 (whlL (fun ρ h => asB (evE C cc ρ h)) (fun ρ h => evSs C b ρ h) m ρ' S') E, fun σ2 H2 q => ⟨m, Nat.lt_succ_self _, q⟩, ?_⟩
      refine ⟨Z, μ1, ρ', S1, rh1, re'.later l1, ?_⟩
      cases ec : evSs C b ρ' S1 with
      | no => rw [ec] at o1; exact o1
      | ex y h' => rw [ec] at o1; exact o1
      | ok fl S2 =>
        rw [ec] at o1
        simp only [R.bind_ok] at o1
        cases fl with
        | nx ρ3 => exact fun σ3 μ3 H3 l3 rh3 re3 => ⟨Z, μ3, ρ3, S2, rh3, re3, o1.later l3⟩
        | ct ρ3 => exact fun σ3 μ3 H3 l3 rh3 re3 => ⟨Z, μ3, ρ3, S2, rh3, re3, o1.later l3⟩
        | bk ρ3 => exact fun σ3 μ3 H3 l3 rh3 re3 => o1 σ3 μ3 H3 l3 rh3 re3
        | rt d => exact fun v μ3 H3 l3 rh3 r3 => o1 v μ3 H3 l3 rh3 r3
/-! ### a table of the module's top -/
theorem sE_tab {x : Str} {t : List (Str × PyData)} {p : Addr} {e : Expr} {c : CE} {px pos : Pos} (hg : Gl X x) (hm : X.mg x = some (.ref p)) (hd : (x == ("__debug__" : Str)) = false) (hT : ∀ z d, t.lookup z = some d → ∃ v, KDct X.K X.w p z v ∧ RpK X.K v d)
    (he : PE X e (tE X.K (evE C c))) (hs : PlainIx e) : PE X (.Subscript (.Name x px) e pos) (tE X.K (evE C (.tab x t c))) := by
  refine PE_wk (pe_ix ix_kdict (pe_glob (v := .ref p) hg hm rfl hd) he hs) fun σ H Q ⟨Z, μ, ρ, S, rh, re, o⟩ => ?_
  simp only [evE] at o
  refine ⟨Z, μ, ρ, S, rh, re, o.bind fun d S1 v μ1 H1 _ l1 rh1 r1 o1 => ?_⟩
  cases d with
  | ref n => exact o1.elim
  | scr ns => exact o1.elim
  | dat q =>
    cases q with
    | str z =>
      cases r1
      simp only at o1
      cases el : t.lookup z with
      | none => rw [el] at o1; exact o1.elim
      | some d =>
        rw [el] at o1
        obtain ⟨v, k, rp⟩ := hT z d el
        exact ⟨p, z, v, rfl, rfl, k, o1.ok rh1 (Rp.up rp)⟩
    | _ => exact o1.elim
/-! ### a list of the store is handed on as data -/
theorem sE_frz {e : Expr} {c : CE} (h : PE X e (tE X.K (evE C c))) : PE X e (tE X.K (evE C (.frz c))) := by
  refine PE_wk h fun σ H Q ⟨Z, μ, ρ, S, rh, re, o⟩ => ?_
  simp only [evE] at o
  refine ⟨Z, μ, ρ, S, rh, re, o.bind fun d S1 v μ1 H1 _ l1 rh1 r1 o1 => ?_⟩
  cases d with
  | dat p => exact o1.ok rh1 r1
  | scr ns => exact o1.elim
  | ref n =>
    cases er : rd S1 (.ref n) with
    | none => simp only [er] at o1; exact o1.elim
    | some p =>
      simp only [er] at o1
      obtain ⟨a, rfl, ha⟩ := r1
      simp only [rd] at er
      split at er
      · rename_i xs hx
        cases eq : dats xs with
        | none => rw [eq] at er; cases er
        | some qs =>
          rw [eq] at er
          simp only [Option.map_some, Option.some.injEq] at er
          subst er
          have hn : n < S1.length := (List.getElem?_eq_some_iff.mp hx).1
          obtain ⟨vs, h1, h2, h3⟩ := rh1.ob n _ a hx ha
          have live : ∀ b, Live μ1 (S1.set n .gone) b → Live μ1 S1 b ∧ b ≠ a := fun b ⟨m, w, q1, q2, q3⟩ => by
            by_cases e : m = n
            · subst e
              rw [List.getElem?_set_self hn] at q2
              cases q2
              cases q3
            · rw [List.getElem?_set_ne (Ne.symm e)] at q2
              refine ⟨⟨m, w, q1, q2, q3⟩, ?_⟩
              rintro rfl
              obtain ⟨g1, e1⟩ := List.getElem?_eq_some_iff.mp q1
              obtain ⟨g2, e2⟩ := List.getElem?_eq_some_iff.mp ha
              exact e ((List.getElem_inj rh1.nd).mp (e1.trans e2.symm))
          have l : Later μ1 S1 H1 μ1 (S1.set n .gone) H1 := ⟨⟨[], by simp⟩, fun b u h nl => ⟨h, fun z => nl (live b z).1⟩⟩
          refine o1 (.ref a) μ1 H1 l ⟨rh1.zt, by simp [rh1.len], rh1.nd, rh1.tr, fun m w b q1 q2 => ?_⟩ ?_
          · by_cases e : m = n
            · subst e
              rw [List.getElem?_set_self hn] at q1
              cases q1
              trivial
            · rw [List.getElem?_set_ne (Ne.symm e)] at q1
              exact (rh1.ob m w b q1 q2).later l fun _ q => q
          · refine Rp.lst ⟨.inl h1, fun z => ?_⟩ (by rw [dats_length eq]; exact h2) (RpAll.later l (RpAll.of_dats h3 eq))
            rcases z with z | z
            · exact (live a z).2 rfl
            · exact (rh1.zt a z).2 (List.mem_of_getElem? ha)
      · cases er
/-! ### calls of defs -/
/-- a def's promise, where no guard (of a repr) stands around -/
structure FnG (P : Program) (w : World) (K : PySem.W.Frag) (mg : Str → Option Value) (base : Heap) (CX : CXT) (k : Nat) (f : Addr) (fd : FuncData) (ps : List Str) (sp : Sp) : Prop where
  len : ∀ vs H Q E, sp vs H Q E → vs.length = ps.length
  run : ∀ (A : Around) (outer : List Env) (s : Shared) (H : Hp) (args : Args) (us : List Value) (vs : List V) (Q : VK) (E : XK), Room k A → A.guards = some [] → Env0 P w K mg base A outer s H → BindsTo s fd args (ps.zip us) → Vals vs us → sp vs H Q E →
    codeAny (model P w) A (.call (.ref f) args) (CR CX outer P w H s Q E) s
section
variable {X : Cx} {CX : CXT} {k : Nat} {f : Addr} {fd : FuncData} {ps : List Str} {sp : Sp} {dvs : List V} {ds : List Value} {E : XK} {x : Str} {p pos : Pos} {e : Expr} {es : List Expr} {t : TA}
theorem run_G {pins : List (Addr × Obj)} {σ : St} {H : Hp} {s : Shared} {Q : VK} {us : List Value} {vs : List V} (F : FnG X.prog X.w X.K X.mg X.base CX k f fd ps sp) (hr : Room k X.A) (gd : X.A.guards = some []) (hb : Binds X.K fd ps ds) (hd : Vals dvs ds) (hx : Passes CX X E)
    (I : Inv X pins σ H s) (r : Vals vs us) (h : sp (vs ++ dvs) H Q E) : wpAny (model X.prog X.w) X.A (call (.ref f) us) (EP X pins σ Q) X.xe s := by
  have r2 := r.append hd
  have hl : (us ++ ds).length = ps.length := r2.length ▸ F.len _ _ _ _ h
  refine wpAny_call (codeAny_mono (F.run X.A X.stack s H ⟨us, []⟩ (us ++ ds) (vs ++ dvs) Q E hr gd I.env0 (hb s us I.kIn hl) r2 h) fun r s' hq => ?_)
  rcases r with e | fl
  · exact hx pins σ H s e s' I hq
  · cases fl <;> first | exact I.after hq | exact False.elim hq
theorem pe_callG (F : FnG X.prog X.w X.K X.mg X.base CX k f fd ps sp) (hr : Room k X.A) (gd : X.A.guards = some []) (hg : Gl X x) (hm : X.mg x = some (.ref f)) (hk : PySem.W.keepIn X.K (.ref f) = true) (hb : Binds X.K fd ps ds) (hd : Vals dvs ds) (hx : Passes CX X E)
    (ha : PA X (e :: es) t) (hdb : (x == ("__debug__" : Str)) = false) (he : starEach (e :: es) X.env = (false, eval e X.env) :: starEach es X.env) (hpl : (backTo pos (starEach es X.env)).any (·.1) = false) : PE X (.Call (.Name x p) (e :: es) [] pos) (tCall sp dvs E t) :=
  ⟨fun pins s σ H Q I h => wpAny_Call_Name_kw (ld_glob I hg hm (PySem.W.callWith_K (h₀ := X.base) I.ok.mod.kin hk (thn (ha.run pos pins s σ H _ I h) fun us s1 ⟨vs, H1, I1, r, q⟩ => ⟨I1.kIn, run_G F hr gd hb hd hx I1 r q⟩) he hpl) hdb)⟩
theorem pe_callG0 (F : FnG X.prog X.w X.K X.mg X.base CX k f fd ps sp) (hr : Room k X.A) (gd : X.A.guards = some []) (hg : Gl X x) (hm : X.mg x = some (.ref f)) (hk : PySem.W.keepIn X.K (.ref f) = true) (hb : Binds X.K fd ps ds) (hd : Vals dvs ds) (hx : Passes CX X E)
    (hdb : (x == ("__debug__" : Str)) = false) : PE X (.Call (.Name x p) [] [] pos) (tCall sp dvs E tNil) :=
  ⟨fun pins s σ H Q I h => wpAny_Call_Name_kw (ld_glob I hg hm (PySem.W.callWith_K0 I.kIn hk (run_G (us := []) F hr gd hb hd hx I .nil h)) hdb)⟩
end
/-- a def's promise by the core -/
def spF (K : PySem.W.Frag) (n : Nat) (m : List D → Hs → R D) : Sp := fun vs H Q _ => ∃ Z μ S ds, RelH K Z μ S H ∧ RelDs K Z μ S H ds vs ∧ ds.length = n ∧ Out K Z (RelD K Z) μ S H (m ds S) Q
theorem call_len {G : List FD} {k f : Nat} {fd : FD} {ds : List D} {S : Hs} (hf : G[f]? = some fd) (h : evF G k f ds S ≠ .no) : ds.length = fd.np := by
  cases k with
  | zero => exact absurd rfl h
  | succ k =>
    simp only [evF, hf, runF] at h
    by_cases e : ds.length = fd.np
    · exact e
    · rw [if_neg e] at h; exact absurd rfl h
theorem call_rdF {f n : Nat} {cs : CEs} {σ : St} {H : Hp} {Q : VK} {E : XK} (hn : ∀ ds S, C f ds S ≠ .no → ds.length = n) (h : tE X.K (evE C (.call f cs)) σ H Q) : tCall (spF X.K n (C f)) [] E (tAs X.K (evEs C cs)) σ H Q := by
  obtain ⟨Z, μ, ρ, S, rh, re, o⟩ := h
  simp only [evE] at o
  refine ⟨Z, μ, ρ, S, rh, re, o.bind fun ds S1 vs μ1 H1 _ l1 rh1 r1 o1 => ?_⟩
  rw [List.append_nil]
  exact ⟨Z, μ1, S1, ds, rh1, r1, hn ds S1 fun e => by rw [e] at o1; exact o1, o1⟩
theorem sE_call {x : Str} {f n k : Nat} {fa : Addr} {fd : FuncData} {ps : List Str} {e : Expr} {es : List Expr} {cs : CEs} {p pos : Pos} (F : FnG X.prog X.w X.K X.mg X.base CX0 k fa fd ps (spF X.K n (C f))) (hn : ∀ ds S, C f ds S ≠ .no → ds.length = n) (hr : Room k X.A) (gd : X.A.guards = some []) (hg : Gl X x) (hm : X.mg x = some (.ref fa)) (hk : PySem.W.keepIn X.K (.ref fa) = true) (hb : Binds X.K fd ps [])
    (hdb : (x == ("__debug__" : Str)) = false) (ha : PA X (e :: es) (tAs X.K (evEs C cs))) (hs : notStar e = true) (hss : es.all notStar = true) : PE X (.Call (.Name x p) (e :: es) [] pos) (tE X.K (evE C (.call f cs))) :=
  PE_wk (pe_callG F hr gd hg hm hk hb .nil pass0 ha hdb (star_cons hs) (back_any hss)) fun σ H Q h => call_rdF hn h
theorem sE_call0 {x : Str} {f n k : Nat} {fa : Addr} {fd : FuncData} {ps : List Str} {p pos : Pos} (F : FnG X.prog X.w X.K X.mg X.base CX0 k fa fd ps (spF X.K n (C f))) (hn : ∀ ds S, C f ds S ≠ .no → ds.length = n) (hr : Room k X.A) (gd : X.A.guards = some []) (hg : Gl X x) (hm : X.mg x = some (.ref fa)) (hk : PySem.W.keepIn X.K (.ref fa) = true) (hb : Binds X.K fd ps [])
    (hdb : (x == ("__debug__" : Str)) = false) : PE X (.Call (.Name x p) [] [] pos) (tE X.K (evE C (.call f .nil))) := by
  refine PE_wk (pe_callG0 F hr gd hg hm hk hb .nil pass0 hdb) fun σ H Q h => ?_
  obtain ⟨Z, μ, ρ, S, rh, re, o⟩ := h
  simp only [evE, evEs, R.bind_ok] at o
  exact ⟨Z, μ, S, [], rh, .nil, hn [] S fun e => by rw [e] at o; exact o, o⟩
end
/-! ### a def keeps its promise -/
theorem start_rel {K : PySem.W.Frag} {Z : Addr → Prop} {μ : List Addr} {S : Hs} {H : Hp} {ds : List D} {vs : List V} (n : Nat) (r : RelDs K Z μ S H ds vs) : RelE K Z μ S H (ds.map some ++ List.replicate n none) (vs.map some ++ List.replicate n none) := by
  refine ⟨by simp [r.length], fun i d e => ?_⟩
  by_cases hi : i < ds.length
  · rw [List.getElem?_append_left (by simpa using hi), List.getElem?_map] at e
    rw [List.getElem?_append_left (by simp; rw [← r.length]; exact hi), List.getElem?_map]
    have : ∀ {ds : List D} {vs : List V} {i : Nat} {d : D}, RelDs K Z μ S H ds vs → ds[i]? = some d → ∃ v, vs[i]? = some v ∧ RelD K Z μ S H d v := fun {ds vs i d} r e => by
      induction r generalizing i with
      | nil => simp at e
      | cons a b ih =>
        cases i with
        | zero => simp at e; subst e; exact ⟨_, rfl, a⟩
        | succ i => simpa using ih (by simpa using e)
    obtain ⟨d', e1, e2⟩ := Option.map_eq_some_iff.mp e
    cases e2
    obtain ⟨v, e3, rv⟩ := this r e1
    exact ⟨v, by rw [e3]; rfl, rv⟩
  · rw [List.getElem?_append_right (by simpa using hi), List.getElem?_replicate] at e
    split at e <;> cases e
theorem fn_ok {P : Program} {w : World} {K : PySem.W.Frag} {mg : Str → Option Value} {base : Heap} {x qual : Str} {params : Arguments} {body : List Stmt} {scope : Scope} {dvs : List V} {kws : List (Str × V)} {f : Addr} {fdt : FuncData} {ps : List Str} {k : Nat} {C : Calls} {fd : FD}
    (F : FunD K x qual params body scope dvs kws f fdt) (Sc : FnScope fd.ns ps scope) (hp : ps.length = fd.np)
    (hbody : ∀ (cdv : Value) (A : Around) (outer : List Env) (s : Shared) (H : Hp) (E : XK), Room k (A.deeper (envOfC qual scope s.heap.objs.size f cdv)) → A.guards = some [] →
      PSs (cxOf CX0 P w K mg base fd.ns qual scope f cdv A outer s H E).nox body (tF K (evSs C fd.body))) : FnG P w K mg base CX0 (k + 1) f fdt ps (spF K fd.np (runF C fd)) := by
  refine ⟨fun vs H Q E h => ?_, fun A outer s H args us vs Q E hr gd e0 hb r h => ?_⟩
  · obtain ⟨Z, μ, S, ds, _, r, e, _⟩ := h
    rw [← r.length, e, hp]
  · obtain ⟨oc, od, dV, kV, doc, pm, an, cdv, ct, osl, rfl, lk, hcd, _, _⟩ := F.ex
    obtain ⟨Z, μ, S, ds, rh, r0, e, o⟩ := h
    simp only [runF, e, if_true] at o
    have hl : vs.length = fd.np := by rw [← r0.length, e]
    have rs : RelE K Z μ S H (ds.map some ++ List.replicate (fd.ns.length - fd.np) none) (start fd.ns vs) := by
      unfold start
      rw [hl]
      exact start_rel (fd.ns.length - fd.np) r0
    have hq : tF K (evSs C fd.body) { nx := fun _ H' => Q .non H', rt := Q } (start fd.ns vs) H := by
      refine ⟨Z, μ, ds.map some ++ List.replicate (fd.ns.length - fd.np) none, S, rh, rs, ?_⟩
      cases ec : evSs C fd.body (ds.map some ++ List.replicate (fd.ns.length - fd.np) none) S with
      | no => rw [ec] at o; exact o
      | ex y h' => rw [ec] at o; exact o
      | ok fl S2 =>
        rw [ec] at o
        simp only [R.bind_ok] at o
        cases fl with
        | nx ρ3 => exact fun σ3 μ3 H3 l3 rh3 re3 => o _ μ3 H3 l3 rh3 Rp.non
        | rt d => exact fun v μ3 H3 l3 rh3 r3 => o v μ3 H3 l3 rh3 r3
        | bk ρ3 => exact o.elim
        | ct ρ3 => exact o.elim
    -- the call is entered
    have keepB : ∀ b o, base.get? b = some o → s.heap.get? b = some o := fun b o e => (e0.bs b o e).1
    have KX : K.In s.heap := e0.mod.kin.keeps keepB
    refine codeAny_call_function hr.depth (KX _ _ lk) rfl Sc.co Sc.gen rfl (PySem.W.codeRec_of KX hcd) (hb _ _ _ _ ?_)
    refine wpAny_newFunctionEnv_cells Sc.kind (fun y hy => ?_) fun env he s1 x => ?_
    · obtain ⟨n, v⟩ := y
      exact (Sc.par n (List.of_mem_zip hy).1).imp (fun q => q) fun q => ⟨q, PySem.W.cellsFrom_some _ _ _ (.inl q)⟩
    · subst he
      refine ⟨(e0.mod.nolimit.keeps keepB).keeps x.toInCall.keep, codeAny_func ?_⟩
      have I := inv_start (CX := CX0) (E := E) Sc hr.hd e0 (hl.trans hp.symm) r x
      refine wpAny_mono ((hbody cdv A outer s H E (hr.deeper _) gd).nox.run [] s1 (start fd.ns vs) H _ I hq) (fun fl s' hs => ?_) fun e s' hs => hs
      cases fl with
      | ret u =>
        obtain ⟨v, σ', H', J, rv, q⟩ := hs
        exact ⟨v, H', J.os, J.bare, J.base, J.hok, rv, q⟩
      | next =>
        obtain ⟨σ', H', J, q⟩ := hs
        exact ⟨V.non, H', J.os, J.bare, J.base, J.hok, rfl, q⟩
      | brk => exact hs.elim fun _ z => z.elim fun _ z => z.2.elim
      | cont => exact hs.elim fun _ z => z.elim fun _ z => z.2.elim
end L2.LC

/-! LC: the checker: is a piece of the text what the core says? -/
namespace L2.LC
open PySem PySem.Spec PyProof.Rows
mutual
def peq : PyData → PyData → Bool
  | .none, .none => true
  | .bool a, .bool b => a == b
  | .int a, .int b => a == b
  | .str a, .str b => decide (a = b)
  | .list a, .list b => peqs a b
  | .tuple a, .tuple b => peqs a b
  | _, _ => false
def peqs : List PyData → List PyData → Bool
  | [], [] => true
  | a :: as, b :: bs => peq a b && peqs as bs
  | _, _ => false
end
mutual
theorem peq_ok : ∀ {a b : PyData}, peq a b = true → a = b
  | .none, b, h => by cases b <;> simp [peq] at h; rfl
  | .bool a, b, h => by cases b <;> simp [peq] at h; rw [h]
  | .int a, b, h => by cases b <;> simp [peq] at h; rw [h]
  | .str a, b, h => by cases b <;> simp [peq] at h; rw [h]
  | .list a, b, h => by cases b <;> simp [peq] at h; rw [peqs_ok h]
  | .tuple a, b, h => by cases b <;> simp [peq] at h; rw [peqs_ok h]
  | .dict a, b, h => by cases b <;> simp [peq] at h
theorem peqs_ok : ∀ {a b : List PyData}, peqs a b = true → a = b
  | [], b, h => by cases b <;> simp [peqs] at h; rfl
  | x :: xs, b, h => by
    cases b with
    | nil => simp [peqs] at h
    | cons y ys =>
      simp only [peqs, Bool.and_eq_true] at h
      rw [peq_ok h.1, peqs_ok h.2]
end
/-- what the text's top gives: defs, constants, tables -/
structure GI where
  fns : List FD
  cons : List (Str × PyData)
  tabs : List (Str × List (Str × PyData))

def visB (sc : Scope) (x : Str) : Bool := match sc.names.lookup x with
  | some .local => true
  | some .cell => true
  | some .free => true
  | _ => false
def glB (sc : Scope) (x : Str) : Bool := match sc.names.lookup x with
  | some .globalImplicit => true
  | _ => false
def notDbg (x : Str) : Bool := !(x == ("__debug__" : Str)) && !(x == ("__classdict__" : Str)) && !(x == ("__name__" : Str))
theorem visB_ok {sc : Scope} {x : Str} (h : visB sc x = true) : Vis sc x := by
  unfold visB at h
  split at h
  · rename_i e; exact .inl e
  · rename_i e; exact .inr (.inl e)
  · rename_i e; exact .inr (.inr e)
  · cases h
theorem glB_ok {X : Cx} {x : Str} (h : glB X.env.scope x = true) : Gl X x := by
  unfold glB at h
  split at h
  · rename_i e; exact e
  · cases h
theorem dbg_ok {x : Str} (h : notDbg x = true) : (x == ("__debug__" : Str)) = false ∧ (x == ("__classdict__" : Str)) = false ∧ x ≠ ("__name__" : Str) := by
  unfold notDbg at h
  simp only [Bool.and_eq_true, Bool.not_eq_true'] at h
  exact ⟨h.1.1, h.1.2, fun e => by rw [e] at h; simp at h⟩
def opOk : Operator → BOp → Bool
  | .Add, .add => true
  | .Sub, .sub => true
  | .Mult, .mul => true
  | .FloorDiv, .fdiv => true
  | .Mod, .mod => true
  | .Pow, .pow => true
  | _, _ => false
def copOk : CmpOp → COp → Bool
  | .Eq, .eq => true
  | .NotEq, .ne => true
  | .Lt, .lt => true
  | .LtE, .le => true
  | .Gt, .gt => true
  | .GtE, .ge => true
  | .Is, .isN => true
  | .IsNot, .notN => true
  | .In, .isin => true
  | .NotIn, .notin => true
  | _, _ => false
def notSet : Expr → Bool
  | .Set .. => false
  | _ => true
def noIf : Expr → Bool
  | .IfExp .. => false
  | _ => true
def notSlice : Expr → Bool
  | .Slice .. => false
  | _ => true
def bfName : BF → Str
  | .len => "len"
  | .int => "int"
  | .all => "all"
  | .any => "any"
  | .sorted => "sorted"
  | .tuple => "tuple"
  | .list => "list"
  | .min1 => "min"
  | .max1 => "max"
  | .min2 => "min"
  | .max2 => "max"
  | .abs => "abs"
  | .repr => "repr"
def tyStr : Ty → Str
  | .int => "int"
  | .bool => "bool"
  | .str => "str"
  | .tuple => "tuple"
def isTup : Expr → Bool
  | .Tuple .. => true
  | _ => false
/-- where a name may be stored -/
def stB (fn : Str → Bool) (sc : Scope) (x : Str) : Bool := match sc.names.lookup x with
  | some .local => true
  | some .cell => fn x
  | _ => false
section
variable (N : List Str)
mutual
def chkG (fn : Str → Bool) (sc : Scope) : Tg → Expr → Bool
  | .name i, .Name x _ => decide (N[i]? = some x) && stB fn sc x
  | .tup ts, .Tuple es _ _ => chkGs fn sc ts es
  | _, _ => false
def chkGs (fn : Str → Bool) (sc : Scope) : Tgs → List Expr → Bool
  | .nil, [] => true
  | .cons t ts, e :: es => chkG fn sc t e && chkGs fn sc ts es
  | _, _ => false
end
end
variable (G : GI) (N : List Str) in
mutual
def chkE : CE → Scope → Expr → Bool
  | .var i, sc, .Name x _ => decide (N[i]? = some x) && visB sc x && notDbg x
  | .cst p, sc, .Name x _ => glB sc x && notDbg x && (match G.cons.lookup x with
    | some q => peq q p
    | none => false)
  | .cst p, _, .Constant c _ _ => cstOk c p
  | .tup cs, sc, .Tuple es _ _ => chkEs cs sc es && decide (cs.len ≤ 1000)
  | .lst cs, sc, .List es _ => chkEs cs sc es && decide (cs.len ≤ 1000)
  | .mk cs, sc, .List es _ => chkEs cs sc es && decide (cs.len ≤ 1000)
  | .bin o ca cb, sc, .BinOp a op b _ => opOk op o && chkE ca sc a && chkE cb sc b
  | .neg ca, sc, .UnaryOp .USub a _ => chkE ca sc a
  | .nt ca, sc, .UnaryOp .Not a _ => chkE ca sc a && noIf a
  | .and ca cb, sc, .BoolOp .And (e :: es) _ => (chkE ca sc e && noIf e) && (match es with
    | [e2] => chkE cb sc e2 && noIf e2
    | _ => chkL true cb sc es)
  | .or ca cb, sc, .BoolOp .Or (e :: es) _ => (chkE ca sc e && noIf e) && (match es with
    | [e2] => chkE cb sc e2 && noIf e2
    | _ => chkL false cb sc es)
  | .cmp o ca cb, sc, .Compare a [op] [b] _ => copOk op o && notSet b && chkE ca sc a && chkE cb sc b
  | .chn o o' ca cb cc, sc, .Compare a [op, op'] [b, c] _ => copOk op o && copOk op' o' && notSet c && chkE ca sc a && chkE cb sc b && chkE cc sc c
  | .ite cc ca cb, sc, .IfExp c a b _ => chkE cc sc c && noIf c && chkE ca sc a && chkE cb sc b
  | .call f cs, sc, .Call (.Name x _) es [] _ => glB sc x && notDbg x && (match G.fns[f]? with
    | some fd => decide (fd.name = x)
    | none => false) && es.all notStar && chkEs cs sc es
  | .bf b cs, sc, .Call (.Name x _) (e :: es) [] _ => decide (bfName b = x) && glB sc x && (e :: es).all notStar && chkEs cs sc (e :: es)
  | .isi t c, sc, .Call (.Name x _) [e, .Name tn _] [] _ => decide (x = "isinstance") && glB sc x && decide (tn = tyStr t) && glB sc tn && notStar e && chkE c sc e
  | .idx ca cb, sc, .Subscript a b _ => notSlice b && chkE ca sc a && chkE cb sc b
  | .slc ca lo hi, sc, .Subscript a (.Slice l h none _) _ => chkE ca sc a && chkO lo sc l && chkO hi sc h
  | .comp e t own it c, sc, .ListComp elt [⟨tg, iter, ifs, asy⟩] scope _ => asy == 0 && blkC N sc scope own && t.ix.all (fun i => (own.map (·.2)).contains i) && chkI it sc iter tg && chkG N (fun x => scope.names.lookup x == some .cell) (relS scope sc) t tg &&
      chkC c (relS scope sc) ifs && chkE e (relS scope sc) elt && (match sc.kind with | .function => true | _ => false)
  | .tab x t c, sc, .Subscript (.Name y _) e _ => decide (x = y) && glB sc x && notDbg x && (match G.tabs.lookup x with
    | some t' => t'.length == t.length && (t'.zip t).all (fun q => decide (q.1.1 = q.2.1) && peq q.1.2 q.2.2)
    | none => false) && notSlice e && chkE c sc e
  | .frz c, sc, e => chkE c sc e
  | _, _, _ => false
/-- a chain of and (or) from its second place on -/
def chkL (isAnd : Bool) : CE → Scope → List Expr → Bool
  | .and ca cb, sc, e :: es => isAnd && (chkE ca sc e && noIf e) && (match es with
    | [e2] => chkE cb sc e2 && noIf e2
    | _ => chkL isAnd cb sc es)
  | .or ca cb, sc, e :: es => !isAnd && (chkE ca sc e && noIf e) && (match es with
    | [e2] => chkE cb sc e2 && noIf e2
    | _ => chkL isAnd cb sc es)
  | _, _, _ => false
def chkEs : CEs → Scope → List Expr → Bool
  | .nil, _, [] => true
  | .cons c cs, sc, e :: es => chkE c sc e && notStar e && chkEs cs sc es
  | _, _, _ => false
def chkO : CO → Scope → Option Expr → Bool
  | .none, _, none => true
  | .some c, sc, some e => chkE c sc e
  | _, _, _ => false
def chkC : CO → Scope → List Expr → Bool
  | .none, _, [] => true
  | .some c, sc, [e] => chkE c sc e && noIf e
  | _, _, _ => false
def chkI : IT → Scope → Expr → Expr → Bool
  | .seq c, sc, e, _ => chkE c sc e && notSet e
  | .rng1 c, sc, .Call (.Name x _) [e] [] _, _ => decide (x = "range") && glB sc x && notStar e && chkE c sc e
  | .rng2 c c2, sc, .Call (.Name x _) [e, e2] [] _, _ => decide (x = "range") && glB sc x && notStar e && notStar e2 && chkE c sc e && chkE c2 sc e2
  | .enum c, sc, .Call (.Name x _) [e] [] _, tg => decide (x = "enumerate") && glB sc x && notStar e && chkE c sc e && isTup tg
  | .zip c c2, sc, .Call (.Name x _) [e, e2] [] _, tg => decide (x = "zip") && glB sc x && notStar e && notStar e2 && chkE c sc e && chkE c2 sc e2 && isTup tg
  | _, _, _, _ => false
end
end L2.LC

/-! LC: what the checker lets by is simulated. -/
namespace L2.LC
open PySem PySem.Spec PyProof.Rows
/-- the built-ins' names that the core uses -/
def bltNames : List Str := ["len", "int", "all", "any", "sorted", "tuple", "list", "min", "max", "abs", "isinstance", "bool", "str", "range", "enumerate", "zip", "repr"]
structure GoodX (G : GI) (C : Calls) (k : Nat) (X : Cx) : Prop where
  calm : X.calm = true
  nd : X.N.Nodup
  room : Room k X.A
  gd : X.A.guards = some []
  blt : ∀ x ∈ bltNames, X.mg x = none
  con : ∀ x p, G.cons.lookup x = some p → ∃ u v, X.mg x = some u ∧ RelV v u ∧ RpK X.K v p
  tab : ∀ x t, G.tabs.lookup x = some t → ∃ a, X.mg x = some (.ref a) ∧ ∀ z d, t.lookup z = some d → ∃ v, KDct X.K X.w a z v ∧ RpK X.K v d
  fn : ∀ f fd, G.fns[f]? = some fd → (∀ ds S, C f ds S ≠ .no → ds.length = fd.np) ∧ ∃ fa fdt ps, X.mg fd.name = some (.ref fa) ∧ PySem.W.keepIn X.K (.ref fa) = true ∧ Binds X.K fdt ps [] ∧ FnG X.prog X.w X.K X.mg X.base CX0 k fa fdt ps (spF X.K fd.np (C f))
theorem GoodX.blk {G : GI} {C : Calls} {k : Nat} {X : Cx} (g : GoodX G C k X) (s : Shared) (H : Hp) (scope : Scope) (cenv : Env) (fp : List Addr) : GoodX G C k (X.blk s H scope cenv fp) :=
  ⟨g.calm, g.nd, g.room, g.gd, g.blt, g.con, g.tab, g.fn⟩
theorem marks_ok {op : CmpOp} {b : Expr} (h : notSet b = true) : behindInMarks op b = false := by
  cases b <;> first | rfl | (simp [notSet] at h)
theorem last_ok {op op' : CmpOp} {b c : Expr} (h : notSet c = true) : lastMarks [op, op'] [b, c] = false := by
  show behindInMarks op' c = false
  exact marks_ok h
theorem plain_ok {b : Expr} (h : notSlice b = true) : PlainIx b := by
  intro o i
  cases b <;> first | rfl | (simp [notSlice] at h)
theorem folded_ok {e : Expr} {env : Env} (h : notSet e = true) : ∀ x, foldedSetIterable e env x = pure x := by
  intro x
  cases e <;> first | rfl | (simp [notSet] at h)
theorem cop_mem {op : CmpOp} {o : COp} (h : copOk op o = true) : (op, o) ∈ [(CmpOp.Eq, COp.eq), (.NotEq, .ne), (.In, .isin), (.NotIn, .notin), (.Lt, .lt), (.LtE, .le), (.Gt, .gt), (.GtE, .ge), (.Is, .isN), (.IsNot, .notN)] := by
  cases op <;> cases o <;> simp [copOk] at h <;> simp
theorem op_bin {X : Cx} {op : Operator} {o : BOp} (h : opOk op o = true) : DOp X (binaryOp op) (fun _ x y => binD o x y) := by
  cases op <;> cases o <;> simp [opOk] at h
  · exact bin_add
  · exact bin_sub
  · exact bin_mul
  · exact bin_mod
  · exact bin_pow
  · exact bin_fdiv
theorem st_ok {X : Cx} {fn : Str → Bool} (hf : ∀ x, fn x = true → X.fn x = true) {x : Str} (h : stB fn X.env.scope x = true) : Loc X.env.scope x ∧ (X.fn x = true ∨ X.env.scope.names.lookup x = some .local) := by
  unfold stB at h
  split at h
  · rename_i e; exact ⟨.inl e, .inr e⟩
  · rename_i e; exact ⟨.inr e, .inl (hf x h)⟩
  · cases h
theorem assign_cons {e : Expr} {es : List Expr} {env : Env} (h : notStar e = true) : assignEach (e :: es) env = (false, assign e env) :: assignEach es env := by
  cases e <;> first | rfl | (simp [notStar] at h)
def Tgs.len : Tgs → Nat
  | .nil => 0
  | .cons _ ts => ts.len + 1
theorem bindTs_len : ∀ {ts : Tgs} {ps : List PyData} {ρ ρ' : En}, bindTs ts ps ρ = some ρ' → ps.length = ts.len
  | .nil, ps, ρ, ρ', h => by cases ps <;> simp [bindTs] at h; rfl
  | .cons t ts, ps, ρ, ρ', h => by
    cases ps with
    | nil => simp [bindTs] at h
    | cons p ps =>
      simp only [bindTs] at h
      split at h
      · simp [Tgs.len, bindTs_len h]
      · cases h
theorem chkG_star {N : List Str} {fn : Str → Bool} {sc : Scope} {t : Tg} {e : Expr} (h : chkG N fn sc t e = true) : notStar e = true := by
  cases t <;> cases e <;> first | rfl | (simp [chkG] at h)
theorem chkGs_len {N : List Str} {fn : Str → Bool} {sc : Scope} {env : Env} : ∀ {ts : Tgs} {es : List Expr}, chkGs N fn sc ts es = true → (assignEach es env).length = ts.len ∧ (assignEach es env).findIdx? (·.1) = none
  | .nil, es, h => by cases es <;> simp [chkGs] at h; exact ⟨rfl, rfl⟩
  | .cons t ts, es, h => by
    cases es with
    | nil => simp [chkGs] at h
    | cons e es =>
      simp only [chkGs, Bool.and_eq_true] at h
      have ih := chkGs_len (env := env) h.2
      rw [assign_cons (chkG_star h.1)]
      refine ⟨by simp [Tgs.len, ih.1], ?_⟩
      rw [List.findIdx?_cons]
      simp [ih.2]
section
variable {X : Cx}
mutual
theorem sndG (hc : X.calm = true) (hN : X.N.Nodup) {fn : Str → Bool} (hf : ∀ x, fn x = true → X.fn x = true) : ∀ {t : Tg} {e : Expr}, chkG X.N fn X.env.scope t e = true → PG X e (gT X.K t)
  | .name i, e, h => by
    cases e <;> simp only [chkG, Bool.false_eq_true] at h
    rename_i x pos
    simp only [Bool.and_eq_true, decide_eq_true_eq] at h
    obtain ⟨h1, h2⟩ := st_ok hf h.2
    exact sG_name hN h.1 h1 h2
  | .tup ts, e, h => by
    cases e <;> simp only [chkG, Bool.false_eq_true] at h
    rename_i es k pos
    have q := chkGs_len (env := X.env) h
    exact sG_tup hc (sndGs hc hN hf h) q.1 q.2 fun ps ρ ρ' e => bindTs_len e
theorem sndGs (hc : X.calm = true) (hN : X.N.Nodup) {fn : Str → Bool} (hf : ∀ x, fn x = true → X.fn x = true) : ∀ {ts : Tgs} {es : List Expr}, chkGs X.N fn X.env.scope ts es = true → PGs X es (gTs X.K ts)
  | .nil, es, h => by
    cases es <;> simp only [chkGs, Bool.false_eq_true] at h
    exact sGs_nil
  | .cons t ts, es, h => by
    cases es with
    | nil => simp [chkGs] at h
    | cons e es =>
      simp only [chkGs, Bool.and_eq_true] at h
      exact sGs_cons (sndG hc hN hf h.1) (sndGs hc hN hf h.2) (by rw [assign_cons (chkG_star h.1)]; rfl)
end
end
theorem blt_of {X : Cx} {G : GI} {C : Calls} {k : Nat} (g : GoodX G C k X) (b : BF) : X.mg (bfName b) = none := g.blt _ (by cases b <;> decide)
theorem sE_bf {X : Cx} {G : GI} {C : Calls} {k : Nat} (g : GoodX G C k X) {b : BF} {p pos : Pos} {e : Expr} {es : List Expr} {cs : CEs} (hg : Gl X (bfName b)) (ha : PA X (e :: es) (tAs X.K (evEs C cs))) (hs : notStar e = true) (hss : es.all notStar = true) : PE X (.Call (.Name (bfName b) p) (e :: es) [] pos) (tE X.K (evE C (.bf b cs))) := by
  have hm := blt_of g b
  cases b with
  | len => exact sE_bfB c_len hg hm (by decide +kernel) ha hs hss (by decide) (by decide)
  | int => exact sE_bfT c_int hg hm (by decide +kernel) ha hs hss (by decide) (by decide)
  | all => exact sE_bfB (c_all g.calm) hg hm (by decide +kernel) ha hs hss (by decide) (by decide)
  | any => exact sE_bfB (c_any g.calm) hg hm (by decide +kernel) ha hs hss (by decide) (by decide)
  | sorted => exact sE_bfB (c_sorted g.room) hg hm (by decide +kernel) ha hs hss (by decide) (by decide)
  | tuple => exact sE_bfT c_tuple hg hm (by decide +kernel) ha hs hss (by decide) (by decide)
  | list => exact sE_bfT c_list hg hm (by decide +kernel) ha hs hss (by decide) (by decide)
  | min1 => exact sE_bfB (c_min1 g.room g.calm) hg hm (by decide +kernel) ha hs hss (by decide) (by decide)
  | max1 => exact sE_bfB (c_max1 g.room g.calm) hg hm (by decide +kernel) ha hs hss (by decide) (by decide)
  | min2 => exact sE_bfB (c_min2 g.calm) hg hm (by decide +kernel) ha hs hss (by decide) (by decide)
  | max2 => exact sE_bfB (c_max2 g.calm) hg hm (by decide +kernel) ha hs hss (by decide) (by decide)
  | abs => exact sE_bfB c_abs hg hm (by decide +kernel) ha hs hss (by decide) (by decide)
  | repr => exact sE_bfB (c_repr g.room g.gd) hg hm (by decide +kernel) ha hs hss (by decide) (by decide)
theorem lookup_zip {t t' : List (Str × PyData)} (hl : t'.length = t.length) (h : (t'.zip t).all (fun q => decide (q.1.1 = q.2.1) && peq q.1.2 q.2.2) = true) : t' = t := by
  induction t' generalizing t with
  | nil => cases t <;> simp at hl; rfl
  | cons a as ih =>
    cases t with
    | nil => simp at hl
    | cons b bs =>
      simp only [List.zip_cons_cons, List.all_cons, Bool.and_eq_true, decide_eq_true_eq] at h
      have e := peq_ok h.1.2
      rw [ih (by simpa using hl) h.2]
      obtain ⟨a1, a2⟩ := a
      obtain ⟨b1, b2⟩ := b
      have h1 : a1 = b1 := h.1.1
      have h2 : a2 = b2 := e
      rw [h1, h2]
/-- both as a value and as a test -/
structure Snd (C : Calls) (c : CE) (X : Cx) (e : Expr) : Prop where
  pe : PE X e (tE X.K (evE C c))
  pt : noIf e = true → PT X e (tTs X.K (evB C c))
theorem Snd.val {C : Calls} {c : CE} {X : Cx} {e : Expr} (h : PE X e (tE X.K (evE C c))) (he : ∀ whole, isTrue e X.env whole = (do let v ← whole; standAt e.pos; holding [v] (truthy v))) : Snd C c X e := ⟨h, fun _ => sT_val h he⟩
structure SndL (C : Calls) (c : CE) (X : Cx) (op : BoolOp) (es : List Expr) : Prop where
  pe : ∀ pos, PE X (.BoolOp op es pos) (tE X.K (evE C c))
  pw : ∀ pos, PW X (.BoolOp op es pos) (tTs X.K (evB C c))
theorem PW_wk {X : Cx} {e : Expr} {t t' : TT} (h : PW X e t) (w : ∀ σ H Q, t' σ H Q → t σ H Q) : PW X e t' := ⟨fun wh pins s σ H Q I hw => h.run wh pins s σ H Q I (w σ H Q hw)⟩
theorem sL_and2 {X : Cx} {C : Calls} {a b : Expr} {ca cb : CE} (ha : Snd C ca X a) (hb : Snd C cb X b) (na : noIf a = true) (nb : noIf b = true) : SndL C (.and ca cb) X .And [a, b] :=
  ⟨fun pos => PE_wk (pe_and ha.pe (pe_one hb.pe)) fun σ H Q h => tE_and h, fun pos => PW_wk (pw_and (ha.pt na) (pw_and1 (hb.pt nb))) fun σ H Q h => tT_and h⟩
theorem sL_and {X : Cx} {C : Calls} {a b : Expr} {es : List Expr} {ca cb : CE} (ha : Snd C ca X a) (hb : SndL C cb X .And (b :: es)) (na : noIf a = true) : SndL C (.and ca cb) X .And (a :: b :: es) :=
  ⟨fun pos => PE_wk (pe_and ha.pe (hb.pe pos)) fun σ H Q h => tE_and h, fun pos => PW_wk (pw_and (ha.pt na) (hb.pw pos)) fun σ H Q h => tT_and h⟩
theorem sL_or2 {X : Cx} {C : Calls} {a b : Expr} {ca cb : CE} (ha : Snd C ca X a) (hb : Snd C cb X b) (na : noIf a = true) (nb : noIf b = true) : SndL C (.or ca cb) X .Or [a, b] :=
  ⟨fun pos => PE_wk (pe_or ha.pe (pe_one hb.pe)) fun σ H Q h => tE_or h, fun pos => PW_wk (pw_or (ha.pt na) (pw_or1 (hb.pt nb))) fun σ H Q h => tT_or h⟩
theorem sL_or {X : Cx} {C : Calls} {a b : Expr} {es : List Expr} {ca cb : CE} (ha : Snd C ca X a) (hb : SndL C cb X .Or (b :: es)) (na : noIf a = true) : SndL C (.or ca cb) X .Or (a :: b :: es) :=
  ⟨fun pos => PE_wk (pe_or ha.pe (hb.pe pos)) fun σ H Q h => tE_or h, fun pos => PW_wk (pw_or (ha.pt na) (hb.pw pos)) fun σ H Q h => tT_or h⟩
theorem SndL.snd {X : Cx} {C : Calls} {c : CE} {op : BoolOp} {es : List Expr} {pos : Pos} (h : SndL C c X op es) : Snd C c X (.BoolOp op es pos) := ⟨h.pe pos, fun _ => (h.pw pos).pt⟩
theorem snd_frz {X : Cx} {C : Calls} {c : CE} {e : Expr} (h : Snd C c X e) : Snd C (.frz c) X e := by
  refine ⟨sE_frz h.pe, fun n => PT_wk (h.pt n) fun σ H Q ⟨Z, μ, ρ, S, rh, re, o⟩ => ⟨Z, μ, ρ, S, rh, re, ?_⟩⟩
  simp only [evB, asB, evE, R.bind_assoc] at o ⊢
  cases q : evE C c ρ S with
  | no => rw [q] at o; exact o
  | ex x h' => rw [q] at o; exact o
  | ok d S1 =>
    rw [q] at o
    simp only [R.bind_ok] at o ⊢
    cases d with
    | dat p => exact o
    | scr ns => exact o.elim
    | ref n =>
      exfalso
      simp only [rd] at o
      cases eh : S1[n]? with
      | none => rw [eh] at o; exact o
      | some ob =>
        rw [eh] at o
        cases ob with
        | lst xs =>
          simp only at o
          cases ed : dats xs with
          | none => rw [ed] at o; exact o
          | some ps => rw [ed] at o; exact o
        | dic _ => exact o
        | gone => exact o
end L2.LC

set_option maxHeartbeats 4000000
/-! LC: the theorem of the checker. -/
namespace L2.LC
open PySem PySem.Spec PyProof.Rows
section
variable {G : GI} {C : Calls} {k : Nat}
theorem bool_and {a b : Bool} (h : (a && b) = true) : a = true ∧ b = true := by simpa using h
variable (G : GI) (C : Calls) (k : Nat) in
def SE (c : CE) : Prop := ∀ X, GoodX G C k X → ∀ e, chkE G X.N c X.env.scope e = true → Snd C c X e
variable (G : GI) (C : Calls) (k : Nat) in
def SL (c : CE) : Prop := ∀ isAnd X, GoodX G C k X → ∀ es, chkL G X.N isAnd c X.env.scope es = true → SndL C c X (if isAnd then .And else .Or) es
variable (G : GI) (C : Calls) (k : Nat) in
def SA (c : CEs) : Prop := ∀ X, GoodX G C k X → ∀ es, chkEs G X.N c X.env.scope es = true → PA X es (tAs X.K (evEs C c))
variable (G : GI) (C : Calls) (k : Nat) in
def SO (c : CO) : Prop := ∀ X, GoodX G C k X → ∀ e, chkO G X.N c X.env.scope e = true → PO X e (tO X.K (evO C c))
variable (G : GI) (C : Calls) (k : Nat) in
def SC (c : CO) : Prop := ∀ X, GoodX G C k X → ∀ es, chkC G X.N c X.env.scope es = true → PTs X es (tTs X.K (evT C c))
variable (G : GI) (C : Calls) (k : Nat) in
def SI (c : IT) : Prop := ∀ X, GoodX G C k X → ∀ e tg, chkI G X.N c X.env.scope e tg = true → PI X tg e (tI X.K (evI C c)) ∧ ∀ x, foldedSetIterable e X.env x = pure x
theorem sSE_var {i : Nat}  : SE G C k (.var i) := fun X g e h => by
    cases e <;> simp only [chkE, Bool.false_eq_true] at h
    simp only [Bool.and_eq_true, decide_eq_true_eq] at h
    obtain ⟨d1, d2, _⟩ := dbg_ok h.2
    exact Snd.val (sE_var h.1.1 (visB_ok h.1.2) d1 d2) (by intro _; rfl)
theorem sSE_cst {p : PyData}  : SE G C k (.cst p) := fun X g e h => by
    cases e <;> simp only [chkE, Bool.false_eq_true] at h
    · exact Snd.val (sE_cst h) (by intro _; rfl)
    · simp only [Bool.and_eq_true] at h
      obtain ⟨d1, d2, _⟩ := dbg_ok h.1.2
      split at h
      · rename_i q hq
        have e := peq_ok h.2
        subst e
        obtain ⟨u, v, h1, h2, h3⟩ := g.con _ _ hq
        exact Snd.val (sE_glob (glB_ok h.1.1) h1 h2 h3 d1) (by intro _; rfl)
      · cases h.2
theorem sSE_tup {cs : CEs} (iA_cs : SA G C k cs) : SE G C k (.tup cs) := fun X g e h => by
    cases e <;> simp only [chkE, Bool.false_eq_true] at h
    simp only [Bool.and_eq_true, decide_eq_true_eq] at h
    exact Snd.val (sE_tup (iA_cs X g _ h.1) h.2) (by intro _; rfl)
theorem sSE_lst {cs : CEs} (iA_cs : SA G C k cs) : SE G C k (.lst cs) := fun X g e h => by
    cases e <;> simp only [chkE, Bool.false_eq_true] at h
    simp only [Bool.and_eq_true, decide_eq_true_eq] at h
    exact Snd.val (sE_lst (iA_cs X g _ h.1) h.2) (by intro _; rfl)
theorem sSE_mk {cs : CEs} (iA_cs : SA G C k cs) : SE G C k (.mk cs) := fun X g e h => by
    cases e <;> simp only [chkE, Bool.false_eq_true] at h
    simp only [Bool.and_eq_true, decide_eq_true_eq] at h
    exact Snd.val (sE_mk (iA_cs X g _ h.1) h.2) (by intro _; rfl)
theorem sSE_bin {o : BOp} {ca : CE} {cb : CE} (iE_ca : SE G C k ca) (iE_cb : SE G C k cb) : SE G C k (.bin o ca cb) := fun X g e h => by
    cases e <;> simp only [chkE, Bool.false_eq_true] at h
    simp only [Bool.and_eq_true] at h
    exact Snd.val (sE_bin (op_bin h.1.1) (iE_ca X g _ h.1.2).pe (iE_cb X g _ h.2).pe) (by intro _; rfl)
theorem sSE_neg {ca : CE} (iE_ca : SE G C k ca) : SE G C k (.neg ca) := fun X g e h => by
    cases e with
    | UnaryOp op a pos =>
      cases op <;> simp only [chkE, Bool.false_eq_true] at h
      exact Snd.val (sE_neg (iE_ca X g _ h).pe) (by intro _; rfl)
    | _ => simp [chkE] at h
theorem sSE_nt {ca : CE} (iE_ca : SE G C k ca) : SE G C k (.nt ca) := fun X g e h => by
    cases e with
    | UnaryOp op a pos =>
      cases op <;> simp only [chkE, Bool.false_eq_true] at h
      simp only [Bool.and_eq_true] at h
      have q := iE_ca X g _ h.1
      exact ⟨sE_not q.pe, fun _ => sT_not (q.pt h.2)⟩
    | _ => simp [chkE] at h
theorem sSE_and {ca : CE} {cb : CE} (iE_ca : SE G C k ca) (iE_cb : SE G C k cb) (iL_cb : SL G C k cb) : SE G C k (.and ca cb) := fun X g e h => by
    cases e with
    | BoolOp op es pos =>
      cases op with
      | Or => simp [chkE] at h
      | And =>
        rcases es with _ | ⟨e1, _ | ⟨e2, _ | ⟨e3, es⟩⟩⟩
        · simp [chkE] at h
        · simp only [chkE, Bool.and_eq_true] at h
          have z := h.2
          cases cb <;> simp [chkL] at z
        · simp only [chkE, Bool.and_eq_true] at h
          exact (sL_and2 (iE_ca X g _ h.1.1) (iE_cb X g _ h.2.1) h.1.2 h.2.2).snd
        · simp only [chkE, Bool.and_eq_true] at h
          exact (sL_and (iE_ca X g _ h.1.1) (iL_cb true X g _ h.2) h.1.2).snd
    | _ => simp [chkE] at h
theorem sSE_or {ca : CE} {cb : CE} (iE_ca : SE G C k ca) (iE_cb : SE G C k cb) (iL_cb : SL G C k cb) : SE G C k (.or ca cb) := fun X g e h => by
    cases e with
    | BoolOp op es pos =>
      cases op with
      | And => simp [chkE] at h
      | Or =>
        rcases es with _ | ⟨e1, _ | ⟨e2, _ | ⟨e3, es⟩⟩⟩
        · simp [chkE] at h
        · simp only [chkE, Bool.and_eq_true] at h
          have z := h.2
          cases cb <;> simp [chkL] at z
        · simp only [chkE, Bool.and_eq_true] at h
          exact (sL_or2 (iE_ca X g _ h.1.1) (iE_cb X g _ h.2.1) h.1.2 h.2.2).snd
        · simp only [chkE, Bool.and_eq_true] at h
          exact (sL_or (iE_ca X g _ h.1.1) (iL_cb false X g _ h.2) h.1.2).snd
    | _ => simp [chkE] at h
theorem sSE_cmp {o : COp} {ca : CE} {cb : CE} (iE_ca : SE G C k ca) (iE_cb : SE G C k cb) : SE G C k (.cmp o ca cb) := fun X g e h => by
    cases e with
    | Compare a ops bs pos =>
      rcases ops with _ | ⟨op, _ | ⟨op', ops⟩⟩ <;> rcases bs with _ | ⟨b, _ | ⟨b', bs⟩⟩ <;> simp only [chkE, Bool.false_eq_true] at h
      simp only [Bool.and_eq_true] at h
      have ho := op_cmp g.room (cop_mem h.1.1.1)
      have ha := (iE_ca X g _ h.1.2).pe
      have hb := (iE_cb X g _ h.2).pe
      exact ⟨sE_cmp ho (marks_ok h.1.1.2) ha hb, fun _ => sT_cmp ho (marks_ok h.1.1.2) ha hb⟩
    | _ => simp [chkE] at h
theorem sSE_chn {o : COp} {o' : COp} {ca : CE} {cb : CE} {cc : CE} (iE_ca : SE G C k ca) (iE_cb : SE G C k cb) (iE_cc : SE G C k cc) : SE G C k (.chn o o' ca cb cc) := fun X g e h => by
    cases e with
    | Compare a ops bs pos =>
      rcases ops with _ | ⟨op, _ | ⟨op', _ | ⟨op'', ops⟩⟩⟩ <;> rcases bs with _ | ⟨b, _ | ⟨b', _ | ⟨b'', bs⟩⟩⟩ <;> simp only [chkE, Bool.false_eq_true] at h
      simp only [Bool.and_eq_true] at h
      have ho := op_cmp g.room (cop_mem h.1.1.1.1.1)
      have ho' := op_cmp g.room (cop_mem h.1.1.1.1.2)
      have ha := (iE_ca X g _ h.1.1.2).pe
      have hb := (iE_cb X g _ h.1.2).pe
      have hc := (iE_cc X g _ h.2).pe
      exact ⟨sE_chn ho ho' (last_ok h.1.1.1.2) ha hb hc, fun _ => sT_chn ho ho' (last_ok h.1.1.1.2) ha hb hc⟩
    | _ => simp [chkE] at h
theorem sSE_ite {cc : CE} {ca : CE} {cb : CE} (iE_cc : SE G C k cc) (iE_ca : SE G C k ca) (iE_cb : SE G C k cb) : SE G C k (.ite cc ca cb) := fun X g e h => by
    cases e <;> simp only [chkE, Bool.false_eq_true] at h
    simp only [Bool.and_eq_true] at h
    exact ⟨sE_ite ((iE_cc X g _ h.1.1.1).pt h.1.1.2) (iE_ca X g _ h.1.2).pe (iE_cb X g _ h.2).pe, fun n => by simp [noIf] at n⟩
theorem sSE_call {f : Nat} {cs : CEs} (iA_cs : SA G C k cs) : SE G C k (.call f cs) := fun X g e h => by
    cases e with
    | Call fe es kws pos =>
      cases fe with
      | Name x p =>
        cases kws with
        | nil =>
          simp only [chkE, Bool.and_eq_true] at h
          obtain ⟨d1, d2, _⟩ := dbg_ok h.1.1.1.2
          cases ef : G.fns[f]? with
          | none => rw [ef] at h; simp at h
          | some fd =>
            rw [ef] at h
            simp only [decide_eq_true_eq] at h
            obtain ⟨hn, fa, fdt, ps, h1, h2, h3, h4⟩ := g.fn f fd ef
            have ex := h.1.1.2
            rw [ex] at h1
            have hA := iA_cs X g _ h.2
            have hst := h.1.2
            cases es with
            | nil =>
              cases cs with
              | nil => exact Snd.val (sE_call0 h4 hn g.room g.gd (glB_ok h.1.1.1.1) h1 h2 h3 d1) (by intro _; rfl)
              | cons c cs => simp [chkEs] at h
            | cons e es =>
              simp only [List.all_cons, Bool.and_eq_true] at hst
              exact Snd.val (sE_call h4 hn g.room g.gd (glB_ok h.1.1.1.1) h1 h2 h3 d1 hA hst.1 hst.2) (by intro _; rfl)
        | cons kw kws => simp [chkE] at h
      | _ => simp [chkE] at h
    | _ => simp [chkE] at h
theorem sSE_bf {b : BF} {cs : CEs} (iA_cs : SA G C k cs) : SE G C k (.bf b cs) := fun X g e h => by
    cases e with
    | Call fe es kws pos =>
      cases fe with
      | Name x p =>
        cases kws with
        | nil =>
          cases es with
          | nil => simp [chkE] at h
          | cons e es =>
            simp only [chkE, Bool.and_eq_true, decide_eq_true_eq, List.all_cons] at h
            have ex := h.1.1.1
            subst ex
            exact Snd.val (sE_bf g (glB_ok h.1.1.2) (iA_cs X g _ h.2) h.1.2.1 h.1.2.2) (by intro _; rfl)
        | cons kw kws => simp [chkE] at h
      | _ => simp [chkE] at h
    | _ => simp [chkE] at h
theorem sSE_isi {t : Ty} {c : CE} (iE_c : SE G C k c) : SE G C k (.isi t c) := fun X g e h => by
    cases e with
    | Call fe es kws pos =>
      cases fe with
      | Name x p =>
        cases kws with
        | nil =>
          rcases es with _ | ⟨e1, _ | ⟨e2, _ | ⟨e3, es⟩⟩⟩
          · simp [chkE] at h
          · simp [chkE] at h
          · cases e2 with
            | Name tn pt =>
              simp only [chkE, Bool.and_eq_true, decide_eq_true_eq] at h
              have ex := h.1.1.1.1.1
              subst ex
              have et := h.1.1.1.2
              subst et
              refine Snd.val (sE_isi (glB_ok h.1.1.1.1.2) (g.blt _ (by decide)) PyProof.Rows.boot_isinstance (glB_ok h.1.1.2) (g.blt _ (by cases t <;> decide)) (by cases t <;> decide +kernel) (by cases t <;> decide) (by cases t <;> decide) (iE_c X g _ h.2).pe h.1.2) (by intro _; rfl)
            | _ => simp [chkE] at h
          · cases e2 <;> simp [chkE] at h
        | cons kw kws => simp [chkE] at h
      | _ => simp [chkE] at h
    | _ => simp [chkE] at h
theorem sSE_idx {ca : CE} {cb : CE} (iE_ca : SE G C k ca) (iE_cb : SE G C k cb) : SE G C k (.idx ca cb) := fun X g e h => by
    cases e with
    | Subscript a b pos =>
      simp only [chkE, Bool.and_eq_true] at h
      exact Snd.val (sE_idx (plain_ok h.1.1) (iE_ca X g _ h.1.2).pe (iE_cb X g _ h.2).pe) (by intro _; rfl)
    | _ => simp [chkE] at h
theorem sSE_slc {ca : CE} {lo : CO} {hi : CO} (iE_ca : SE G C k ca) (iO_lo : SO G C k lo) (iO_hi : SO G C k hi) : SE G C k (.slc ca lo hi) := fun X g e h => by
    cases e with
    | Subscript a b pos =>
      cases b with
      | Slice l u st p2 =>
        cases st with
        | none =>
          simp only [chkE, Bool.and_eq_true] at h
          exact Snd.val (sE_slc (iE_ca X g _ h.1.1).pe (iO_lo X g _ h.1.2) (iO_hi X g _ h.2)) (by intro _; rfl)
        | some s => simp [chkE] at h
      | _ => simp [chkE] at h
    | _ => simp [chkE] at h
theorem sSE_comp {e0 : CE} {t : Tg} {own : List (Str × Nat)} {it : IT} {c : CO} (iE_e0 : SE G C k e0) (iI_it : SI G C k it) (iC_c : SC G C k c) : SE G C k (.comp e0 t own it c) := fun X g e h => by
    cases e with
    | ListComp elt gs scope pos =>
      rcases gs with _ | ⟨⟨tg, iter, ifs, asy⟩, _ | ⟨g2, gs⟩⟩
      · simp [chkE] at h
      · simp only [chkE, Bool.and_eq_true, beq_iff_eq] at h
        have ea := h.1.1.1.1.1.1.1
        subst ea
        have hi := iI_it X g _ _ h.1.1.1.1.2
        have hk : X.env.scope.kind = .function := by
          have z := h.2
          split at z
          · assumption
          · cases z
        refine Snd.val (sE_comp g.calm g.nd hi.1 (blkOk_by h.1.1.1.1.1.1.2) (fun i hi => ?_) (fun s H Cc cl fp => ?_) (fun s H Cc cl fp => ?_) (fun s H Cc cl fp => ?_) hi.2) (by intro _; rfl)
        · have z := List.all_eq_true.mp h.1.1.1.1.1.2 i hi
          simpa using z
        · exact sndG (X := X.blk s H scope (compEnvC scope cl Cc X.env) fp) g.calm g.nd (fn := fun x => scope.names.lookup x == some .cell) (fun x q => q) h.1.1.1.2
        · exact iC_c _ (g.blk s H scope (compEnvC scope cl Cc X.env) fp) _ h.1.1.2
        · exact (iE_e0 _ (g.blk s H scope (compEnvC scope cl Cc X.env) fp) _ h.1.2).pe
      · simp [chkE] at h
    | _ => simp [chkE] at h
theorem sSE_tab {x : Str} {t : List (Str × PyData)} {c : CE} (iE_c : SE G C k c) : SE G C k (.tab x t c) := fun X g e h => by
    cases e with
    | Subscript a b pos =>
      cases a with
      | Name y p =>
        simp only [chkE, Bool.and_eq_true, decide_eq_true_eq] at h
        obtain ⟨d1, d2, _⟩ := dbg_ok h.1.1.1.2
        have ey := h.1.1.1.1.1
        subst ey
        cases et : G.tabs.lookup x with
        | none => rw [et] at h; simp at h
        | some t' =>
          rw [et] at h
          simp only [Bool.and_eq_true, beq_iff_eq] at h
          have e2 := lookup_zip h.1.1.2.1 h.1.1.2.2
          subst e2
          obtain ⟨a, h1, h2⟩ := g.tab x _ et
          exact Snd.val (sE_tab (glB_ok h.1.1.1.1.2) h1 d1 h2 (iE_c X g _ h.2).pe (plain_ok h.1.2)) (by intro _; rfl)
      | _ => simp [chkE] at h
    | _ => simp [chkE] at h
theorem sSE_frz {c : CE} (iE_c : SE G C k c) : SE G C k (.frz c) := fun X g e h => by
    simp only [chkE] at h
    exact snd_frz (iE_c X g _ h)
theorem sSL_and {ca : CE} {cb : CE} (iE_ca : SE G C k ca) (iE_cb : SE G C k cb) (iL_cb : SL G C k cb) : SL G C k (.and ca cb) := fun isAnd X g es h => by
    cases isAnd with
    | false => rcases es with _ | ⟨e1, es⟩ <;> simp [chkL] at h
    | true =>
      rcases es with _ | ⟨e1, _ | ⟨e2, _ | ⟨e3, es⟩⟩⟩
      · simp [chkL] at h
      · simp only [chkL, Bool.and_eq_true] at h
        have z := h.2
        cases cb <;> simp [chkL] at z
      · simp only [chkL, Bool.and_eq_true] at h
        exact sL_and2 (iE_ca X g _ h.1.2.1) (iE_cb X g _ h.2.1) h.1.2.2 h.2.2
      · simp only [chkL, Bool.and_eq_true] at h
        exact sL_and (iE_ca X g _ h.1.2.1) (iL_cb true X g _ h.2) h.1.2.2
theorem sSL_or {ca : CE} {cb : CE} (iE_ca : SE G C k ca) (iE_cb : SE G C k cb) (iL_cb : SL G C k cb) : SL G C k (.or ca cb) := fun isAnd X g es h => by
    cases isAnd with
    | true => rcases es with _ | ⟨e1, es⟩ <;> simp [chkL] at h
    | false =>
      rcases es with _ | ⟨e1, _ | ⟨e2, _ | ⟨e3, es⟩⟩⟩
      · simp [chkL] at h
      · simp only [chkL, Bool.and_eq_true] at h
        have z := h.2
        cases cb <;> simp [chkL] at z
      · simp only [chkL, Bool.and_eq_true] at h
        exact sL_or2 (iE_ca X g _ h.1.2.1) (iE_cb X g _ h.2.1) h.1.2.2 h.2.2
      · simp only [chkL, Bool.and_eq_true] at h
        exact sL_or (iE_ca X g _ h.1.2.1) (iL_cb false X g _ h.2) h.1.2.2
theorem sSO_none   : SO G C k (.none ) := fun X g e h => by
    cases e <;> simp only [chkO, Bool.false_eq_true] at h
    exact sO_none
theorem sSO_some {c : CE} (iE_c : SE G C k c) : SO G C k (.some c) := fun X g e h => by
    cases e <;> simp only [chkO, Bool.false_eq_true] at h
    exact sO_some (iE_c X g _ h).pe
theorem sSC_none   : SC G C k (.none ) := fun X g es h => by
    cases es <;> simp only [chkC, Bool.false_eq_true] at h
    exact sTs_nil
theorem sSC_some {c : CE} (iE_c : SE G C k c) : SC G C k (.some c) := fun X g es h => by
    rcases es with _ | ⟨e, _ | ⟨e2, es⟩⟩ <;> simp only [chkC, Bool.false_eq_true] at h
    simp only [Bool.and_eq_true] at h
    exact sTs_one ((iE_c X g _ h.1).pt h.2)
theorem sSI_seq {c : CE} (iE_c : SE G C k c) : SI G C k (.seq c) := fun X g e tg h => by
    simp only [chkI, Bool.and_eq_true] at h
    exact ⟨sI_seq (iE_c X g _ h.1).pe, folded_ok h.2⟩
theorem sSI_rng1 {c : CE} (iE_c : SE G C k c) : SI G C k (.rng1 c) := fun X g e tg h => by
    cases e with
    | Call fe es kws pos =>
      cases fe with
      | Name x p =>
        cases kws with
        | nil =>
          rcases es with _ | ⟨e1, _ | ⟨e2, es⟩⟩ <;> simp only [chkI, Bool.false_eq_true] at h
          simp only [Bool.and_eq_true, decide_eq_true_eq] at h
          have ex := h.1.1.1
          subst ex
          exact ⟨sI_rng1 (glB_ok h.1.1.2) (g.blt _ (by decide)) (iE_c X g _ h.2).pe h.1.2, folded_ok rfl⟩
        | cons kw kws => rcases es with _ | ⟨e1, _ | ⟨e2, _ | ⟨e3, es⟩⟩⟩ <;> simp [chkI] at h
      | _ => simp [chkI] at h
    | _ => simp [chkI] at h
theorem sSI_rng2 {c : CE} {c2 : CE} (iE_c : SE G C k c) (iE_c2 : SE G C k c2) : SI G C k (.rng2 c c2) := fun X g e tg h => by
    cases e with
    | Call fe es kws pos =>
      cases fe with
      | Name x p =>
        cases kws with
        | nil =>
          rcases es with _ | ⟨e1, _ | ⟨e2, _ | ⟨e3, es⟩⟩⟩ <;> simp only [chkI, Bool.false_eq_true] at h
          simp only [Bool.and_eq_true, decide_eq_true_eq] at h
          have ex := h.1.1.1.1.1
          subst ex
          exact ⟨sI_rng2 (glB_ok h.1.1.1.1.2) (g.blt _ (by decide)) (iE_c X g _ h.1.2).pe (iE_c2 X g _ h.2).pe h.1.1.1.2 h.1.1.2, folded_ok rfl⟩
        | cons kw kws => rcases es with _ | ⟨e1, _ | ⟨e2, _ | ⟨e3, es⟩⟩⟩ <;> simp [chkI] at h
      | _ => simp [chkI] at h
    | _ => simp [chkI] at h
theorem sSI_enum {c : CE} (iE_c : SE G C k c) : SI G C k (.enum c) := fun X g e tg h => by
    cases e with
    | Call fe es kws pos =>
      cases fe with
      | Name x p =>
        cases kws with
        | nil =>
          rcases es with _ | ⟨e1, _ | ⟨e2, es⟩⟩ <;> simp only [chkI, Bool.false_eq_true] at h
          simp only [Bool.and_eq_true, decide_eq_true_eq] at h
          have ex := h.1.1.1.1
          subst ex
          have h6 := h.2
          cases tg <;> simp [isTup] at h6
          exact ⟨sI_enum (glB_ok h.1.1.1.2) (g.blt _ (by decide)) (iE_c X g _ h.1.2).pe h.1.1.2, folded_ok rfl⟩
        | cons kw kws => rcases es with _ | ⟨e1, _ | ⟨e2, _ | ⟨e3, es⟩⟩⟩ <;> simp [chkI] at h
      | _ => simp [chkI] at h
    | _ => simp [chkI] at h
theorem sSI_zip {c : CE} {c2 : CE} (iE_c : SE G C k c) (iE_c2 : SE G C k c2) : SI G C k (.zip c c2) := fun X g e tg h => by
    cases e with
    | Call fe es kws pos =>
      cases fe with
      | Name x p =>
        cases kws with
        | nil =>
          rcases es with _ | ⟨e1, _ | ⟨e2, _ | ⟨e3, es⟩⟩⟩ <;> simp only [chkI, Bool.false_eq_true] at h
          simp only [Bool.and_eq_true, decide_eq_true_eq] at h
          have ex := h.1.1.1.1.1.1
          subst ex
          have h6 := h.2
          cases tg <;> simp [isTup] at h6
          exact ⟨sI_zip (glB_ok h.1.1.1.1.1.2) (g.blt _ (by decide)) (iE_c X g _ h.1.1.2).pe (iE_c2 X g _ h.1.2).pe h.1.1.1.1.2 h.1.1.1.2, folded_ok rfl⟩
        | cons kw kws => rcases es with _ | ⟨e1, _ | ⟨e2, _ | ⟨e3, es⟩⟩⟩ <;> simp [chkI] at h
      | _ => simp [chkI] at h
    | _ => simp [chkI] at h
theorem sSA_nil   : SA G C k (.nil ) := fun X g es h => by
    cases es <;> simp only [chkEs, Bool.false_eq_true] at h
    exact sA_nil
theorem sSA_cons {c : CE} {cs : CEs} (iE_c : SE G C k c) (iA_cs : SA G C k cs) : SA G C k (.cons c cs) := fun X g es h => by
    cases es with
    | nil => simp [chkEs] at h
    | cons e es =>
      simp only [chkEs, Bool.and_eq_true] at h
      exact sA_cons (iE_c X g _ h.1.1).pe (iA_cs X g _ h.2) h.1.2
theorem sL_triv {c : CE} (h : ∀ isAnd N sc es, chkL G N isAnd c sc es = false) : SL G C k c := fun isAnd X g es q => by rw [h] at q; cases q
mutual
theorem snd : ∀ c : CE, SE G C k c
  | .var i => sSE_var 
  | .cst p => sSE_cst 
  | .tup cs => sSE_tup (sndA cs)
  | .lst cs => sSE_lst (sndA cs)
  | .mk cs => sSE_mk (sndA cs)
  | .bin o ca cb => sSE_bin (snd ca) (snd cb)
  | .neg ca => sSE_neg (snd ca)
  | .nt ca => sSE_nt (snd ca)
  | .and ca cb => sSE_and (snd ca) (snd cb) (sndL cb)
  | .or ca cb => sSE_or (snd ca) (snd cb) (sndL cb)
  | .cmp o ca cb => sSE_cmp (snd ca) (snd cb)
  | .chn o o' ca cb cc => sSE_chn (snd ca) (snd cb) (snd cc)
  | .ite cc ca cb => sSE_ite (snd cc) (snd ca) (snd cb)
  | .call f cs => sSE_call (sndA cs)
  | .bf b cs => sSE_bf (sndA cs)
  | .isi t c => sSE_isi (snd c)
  | .idx ca cb => sSE_idx (snd ca) (snd cb)
  | .slc ca lo hi => sSE_slc (snd ca) (sndO lo) (sndO hi)
  | .comp e0 t own it c => sSE_comp (snd e0) (sndI it) (sndC c)
  | .tab x t c => sSE_tab (snd c)
  | .frz c => sSE_frz (snd c)
theorem sndL : ∀ c : CE, SL G C k c
  | .and ca cb => sSL_and (snd ca) (snd cb) (sndL cb)
  | .or ca cb => sSL_or (snd ca) (snd cb) (sndL cb)
  | .var _ => sL_triv fun _ _ _ _ => by simp [chkL]
  | .cst _ => sL_triv fun _ _ _ _ => by simp [chkL]
  | .tup _ => sL_triv fun _ _ _ _ => by simp [chkL]
  | .lst _ => sL_triv fun _ _ _ _ => by simp [chkL]
  | .mk _ => sL_triv fun _ _ _ _ => by simp [chkL]
  | .bin _ _ _ => sL_triv fun _ _ _ _ => by simp [chkL]
  | .neg _ => sL_triv fun _ _ _ _ => by simp [chkL]
  | .nt _ => sL_triv fun _ _ _ _ => by simp [chkL]
  | .cmp _ _ _ => sL_triv fun _ _ _ _ => by simp [chkL]
  | .chn _ _ _ _ _ => sL_triv fun _ _ _ _ => by simp [chkL]
  | .ite _ _ _ => sL_triv fun _ _ _ _ => by simp [chkL]
  | .call _ _ => sL_triv fun _ _ _ _ => by simp [chkL]
  | .bf _ _ => sL_triv fun _ _ _ _ => by simp [chkL]
  | .isi _ _ => sL_triv fun _ _ _ _ => by simp [chkL]
  | .idx _ _ => sL_triv fun _ _ _ _ => by simp [chkL]
  | .slc _ _ _ => sL_triv fun _ _ _ _ => by simp [chkL]
  | .comp _ _ _ _ _ => sL_triv fun _ _ _ _ => by simp [chkL]
  | .tab _ _ _ => sL_triv fun _ _ _ _ => by simp [chkL]
  | .frz _ => sL_triv fun _ _ _ _ => by simp [chkL]
theorem sndA : ∀ c : CEs, SA G C k c
  | .nil  => sSA_nil 
  | .cons c cs => sSA_cons (snd c) (sndA cs)
theorem sndO : ∀ c : CO, SO G C k c
  | .none  => sSO_none 
  | .some c => sSO_some (snd c)
theorem sndC : ∀ c : CO, SC G C k c
  | .none  => sSC_none 
  | .some c => sSC_some (snd c)
theorem sndI : ∀ c : IT, SI G C k c
  | .seq c => sSI_seq (snd c)
  | .rng1 c => sSI_rng1 (snd c)
  | .rng2 c c2 => sSI_rng2 (snd c) (snd c2)
  | .enum c => sSI_enum (snd c)
  | .zip c c2 => sSI_zip (snd c) (snd c2)
end
end
end L2.LC

set_option maxHeartbeats 4000000
/-! LC: statements and defs by the checker. -/
namespace L2.LC
open PySem PySem.Spec PyProof.Rows
/-- does y = [..] swap -/
def swB (sc scope : Scope) (y : Str) (py pos : Pos) : Bool := (match sc.names.lookup y with | some .local => true | _ => false) && (py.line == pos.line) && !(scope.names.any fun (n, k) => n == y && (k == .local || k == .cell))
theorem sw_comp {elt : Expr} {gs : List Comprehension} {scope : Scope} {pos py : Pos} {y : Str} {l : Nat} {env : Env} (hk : env.scope.kind = .function) : swapsWith (.ListComp elt gs scope pos) (some (.Name y py)) l env = pure (swB env.scope scope y py pos) := by
  have hb : env.blockKind = .function := by unfold Env.blockKind; rw [hk]; rfl
  unfold swapsWith swB
  simp only [hb, Expr.pos, Env.kindOf]
  cases env.scope.names.lookup y with
  | none => rfl
  | some kd => cases kd <;> rfl
def locB (sc : Scope) (x : Str) : Bool := match sc.names.lookup x with
  | some .local => true
  | _ => false
theorem locB_ok {sc : Scope} {x : Str} (h : locB sc x = true) : sc.names.lookup x = some .local := by
  unfold locB at h
  split at h
  · assumption
  · cases h
theorem sw_par {x y : Str} {a b : Expr} {px py pt pt2 : Pos} {kt k2 : Nat} {env : Env} (hk : env.scope.kind = .function) (hx : locB env.scope x = true) (hy : locB env.scope y = true) (hl : (py.line == px.line) = true) (hne : (x == y) = false) (hsa : notStar a = true) (hsb : notStar b = true)
    (hf : [a, b].all (foldedForSure 8) = false) (hc : [a, b].all (constantsAlone 8) = false) : swappedStores [.Tuple [.Name x px, .Name y py] kt pt] (.Tuple [a, b] k2 pt2) env = pure (some [x, y]) := by
  have hb : env.blockKind = .function := by unfold Env.blockKind; rw [hk]; rfl
  have h1 : env.kindOf x = some .local := locB_ok hx
  have h2 : env.kindOf y = some .local := locB_ok hy
  have hst : ([a, b].any fun | .Starred .. => true | _ => false) = false := by
    cases a <;> first | (simp [notStar] at hsa; done) | skip
    all_goals (cases b <;> first | (simp [notStar] at hsb; done) | rfl)
  have ne : ¬ x = y := by simpa using hne
  have hd : [x, y].eraseDups = [x, y] := by
    have : (y == x) = false := by
      rw [beq_eq_false_iff_ne]
      exact fun e => ne e.symm
    simp [List.eraseDups_cons, this]
  have hn : ([Expr.Name x px, Expr.Name y py].filterMap fun
    | .Name id pos => if (env.kindOf id == some .local && pos.line == px.line) = true then some id else none
    | _ => none) = [x, y] := by
    simp only [List.filterMap_cons, h1, h2, hl, List.filterMap_nil]
    simp
  have e : swappedStores [.Tuple [.Name x px, .Name y py] kt pt] (.Tuple [a, b] k2 pt2) env = (do
      if (!(([Expr.Name x px, Expr.Name y py].length == 2) || ([Expr.Name x px, Expr.Name y py].length == 3)) || [a, b].length != [Expr.Name x px, Expr.Name y py].length || env.blockKind != .function) = true then return none
      if ([a, b].any fun | .Starred .. => true | _ => false) = true then return none
      if ((([Expr.Name x px, Expr.Name y py].filterMap fun
    | .Name id pos => if (env.kindOf id == some .local && pos.line == px.line) = true then some id else none
    | _ => none).length != [Expr.Name x px, Expr.Name y py].length) || ((([Expr.Name x px, Expr.Name y py].filterMap fun
    | .Name id pos => if (env.kindOf id == some .local && pos.line == px.line) = true then some id else none
    | _ => none).eraseDups.length != ([Expr.Name x px, Expr.Name y py].filterMap fun
    | .Name id pos => if (env.kindOf id == some .local && pos.line == px.line) = true then some id else none
    | _ => none).length))) = true then return none
      if ([a, b].all (foldedForSure 8)) = true then return none
      if ([a, b].all (constantsAlone 8)) = true then unsupported "assign.tuple-of-constant-expressions:order-of-the-stores"
      return some ([Expr.Name x px, Expr.Name y py].filterMap fun
    | .Name id pos => if (env.kindOf id == some .local && pos.line == px.line) = true then some id else none
    | _ => none)) := rfl
  rw [e, hn, hd, hb, hst, hf, hc]
  rfl

theorem nst_cons {e : Expr} {es : List Expr} (h : notStar e = true) (hs : (es.any fun | .Starred .. => true | _ => false) = false) : ((e :: es).any fun | .Starred .. => true | _ => false) = false := by
  rw [List.any_cons, hs, Bool.or_false]
  cases e <;> first | rfl | (simp [notStar] at h)
theorem sw_par3 {x y z : Str} {a b c : Expr} {px py pz pt pt2 : Pos} {kt k2 : Nat} {env : Env} (hk : env.scope.kind = .function) (hx : locB env.scope x = true) (hy : locB env.scope y = true) (hz : locB env.scope z = true) (hl : (py.line == px.line) = true) (hl2 : (pz.line == px.line) = true) (hxy : (x == y) = false) (hxz : (x == z) = false) (hyz : (y == z) = false) (hsa : notStar a = true) (hsb : notStar b = true) (hsc : notStar c = true)
    (hf : [a, b, c].all (foldedForSure 8) = false) (hc : [a, b, c].all (constantsAlone 8) = false) : swappedStores [.Tuple [.Name x px, .Name y py, .Name z pz] kt pt] (.Tuple [a, b, c] k2 pt2) env = pure (some [x, y, z]) := by
  have hb : env.blockKind = .function := by unfold Env.blockKind; rw [hk]; rfl
  have h1 : env.kindOf x = some .local := locB_ok hx
  have h2 : env.kindOf y = some .local := locB_ok hy
  have h3 : env.kindOf z = some .local := locB_ok hz
  have hst : ([a, b, c].any fun | .Starred .. => true | _ => false) = false := nst_cons hsa (nst_cons hsb (nst_cons hsc rfl))
  have sym : ∀ {u v : Str}, (u == v) = false → (v == u) = false := fun {u v} h => by
    rw [beq_eq_false_iff_ne] at h ⊢
    exact fun e => h e.symm
  have hd : [x, y, z].eraseDups = [x, y, z] := by simp [List.eraseDups_cons, sym hxy, sym hxz, sym hyz]
  have hn : ([Expr.Name x px, Expr.Name y py, Expr.Name z pz].filterMap fun
    | .Name id pos => if (env.kindOf id == some .local && pos.line == px.line) = true then some id else none
    | _ => none) = [x, y, z] := by
    simp only [List.filterMap_cons, h1, h2, h3, hl, hl2, List.filterMap_nil]
    simp
  have e : swappedStores [.Tuple [.Name x px, .Name y py, .Name z pz] kt pt] (.Tuple [a, b, c] k2 pt2) env = (do
      if (!(([Expr.Name x px, Expr.Name y py, Expr.Name z pz].length == 2) || ([Expr.Name x px, Expr.Name y py, Expr.Name z pz].length == 3)) || [a, b, c].length != [Expr.Name x px, Expr.Name y py, Expr.Name z pz].length || env.blockKind != .function) = true then return none
      if ([a, b, c].any fun | .Starred .. => true | _ => false) = true then return none
      if ((([Expr.Name x px, Expr.Name y py, Expr.Name z pz].filterMap fun
    | .Name id pos => if (env.kindOf id == some .local && pos.line == px.line) = true then some id else none
    | _ => none).length != [Expr.Name x px, Expr.Name y py, Expr.Name z pz].length) || ((([Expr.Name x px, Expr.Name y py, Expr.Name z pz].filterMap fun
    | .Name id pos => if (env.kindOf id == some .local && pos.line == px.line) = true then some id else none
    | _ => none).eraseDups.length != ([Expr.Name x px, Expr.Name y py, Expr.Name z pz].filterMap fun
    | .Name id pos => if (env.kindOf id == some .local && pos.line == px.line) = true then some id else none
    | _ => none).length))) = true then return none
      if ([a, b, c].all (foldedForSure 8)) = true then return none
      if ([a, b, c].all (constantsAlone 8)) = true then unsupported "assign.tuple-of-constant-expressions:order-of-the-stores"
      return some ([Expr.Name x px, Expr.Name y py, Expr.Name z pz].filterMap fun
    | .Name id pos => if (env.kindOf id == some .local && pos.line == px.line) = true then some id else none
    | _ => none)) := rfl
  rw [e, hn, hd, hb, hst, hf, hc]
  rfl
/-- a display on the right that is no swap -/
def swNone (ts : List Expr) : Expr → Bool
  | .Tuple es _ _ => !(ts.length == 2 || ts.length == 3) || es.length != ts.length || es.all (foldedForSure 8)
  | _ => true
theorem sw_none {ts : List Expr} {e : Expr} {k : Nat} {p : Pos} {env : Env} (h : swNone ts e = true) : swappedStores [.Tuple ts k p] e env = pure none := by
  cases e with
  | Tuple es k2 p2 =>
    change (!(ts.length == 2 || ts.length == 3) || es.length != ts.length || es.all (foldedForSure 8)) = true at h
    unfold swappedStores
    simp only []
    by_cases h1 : (!(ts.length == 2 || ts.length == 3) || es.length != ts.length || env.blockKind != .function) = true
    · simp only [h1, if_true]
    · have h1' := h1
      simp only [Bool.not_eq_true] at h1
      have hf : es.all (foldedForSure 8) = true := by
        rw [Bool.or_eq_false_iff] at h1
        rw [h1.1, Bool.false_or] at h
        exact h
      simp only [h1, Bool.false_eq_true, if_false, hf, if_true]
      split
      · rfl
      · split <;> rfl
  | _ => rfl

variable (G : GI) (N : List Str) (sc : Scope) in
mutual
def chkS : CS → Stmt → Bool
  | .asg (.name i) c, .Assign [.Name x p] e _ => decide (N[i]? = some x) && stB (fun _ => true) sc x && chkE G N c sc e && (match e, c with
    | .ListComp _ _ scope pos, .comp .. => true
    | .ListComp _ _ scope pos, _ => !swB sc scope x p pos
    | _, _ => !isComp e)
  | .asg t c, .Assign [.Tuple es k p] e _ => chkG N (fun _ => true) sc t (.Tuple es k p) && chkE G N c sc e && !isComp e && swNone es e
  | .par i j a b, .Assign [.Tuple [.Name x px, .Name y py] _ _] (.Tuple [ea, eb] _ _) _ => decide (N[i]? = some x) && decide (N[j]? = some y) && !(i == j) && locB sc x && locB sc y && (py.line == px.line) && !(x == y) && notStar ea && notStar eb &&
      !([ea, eb].all (foldedForSure 8)) && !([ea, eb].all (constantsAlone 8)) && chkE G N a sc ea && chkE G N b sc eb
  | .par3 i j l a b c, .Assign [.Tuple [.Name x px, .Name y py, .Name z pz] _ _] (.Tuple [ea, eb, ec] _ _) _ => (decide (N[i]? = some x) && decide (N[j]? = some y) && decide (N[l]? = some z) && !(i == j) && !(i == l) && !(j == l)) && (locB sc x && locB sc y && locB sc z && (py.line == px.line) && (pz.line == px.line) && !(x == y) && !(x == z) && !(y == z)) && (notStar ea && notStar eb && notStar ec &&
      !([ea, eb, ec].all (foldedForSure 8)) && !([ea, eb, ec].all (constantsAlone 8))) && (chkE G N a sc ea && chkE G N b sc eb && chkE G N c sc ec)
  | .app l v, .Expr (.Call (.Attribute o attr apos) [e] [] cpos) _ => decide (attr = "append") && notSuper o && notStar e && (apos.endLine == cpos.line) && chkE G N l sc o && chkE G N v sc e
  | .ret c, .Return (some e) _ => chkE G N c sc e
  | .cond c a b, .If e sa sb _ => chkE G N c sc e && noIf e && chkSs a sa && chkSs b sb
  | .loop t it b, .For tg iter body [] _ => chkI G N it sc iter tg && chkG N (fun _ => true) sc t tg && chkSs b body
  | .whl c b, .While e body [] _ => chkE G N c sc e && noIf e && chkSs b body
  | .drop c, .Expr e _ => chkE G N c sc e && !isComp e
  | .never, _ => true
  | _, _ => false
def chkSs : CSs → List Stmt → Bool
  | .nil, [] => true
  | .cons c cs, s :: ss => chkS c s && chkSs cs ss
  | _, _ => false
end
structure GoodS (G : GI) (C : Calls) (k : Nat) (X : Cx) : Prop extends GoodX G C k X where
  fnT : ∀ x, X.fn x = true
  po : PassesOwn (model X.prog X.w) X.A X.env X.xe
  kind : X.env.scope.kind = .function
section
variable {G : GI} {C : Calls} {k : Nat}
variable (G C k) in
def ZS (c : CS) : Prop := ∀ X, GoodS G C k X → ∀ s, chkS G X.N X.env.scope c s = true → PS X s (tF X.K (evS C c))
variable (G C k) in
def ZSs (c : CSs) : Prop := ∀ X, GoodS G C k X → ∀ s, chkSs G X.N X.env.scope c s = true → PSs X s (tF X.K (evSs C c))
theorem zS_asg {t : Tg} {c : CE} : ZS G C k (.asg t c) := fun X g s h => by
  cases s with
  | Assign ts e pos =>
    rcases ts with _ | ⟨tg, _ | ⟨tg2, ts⟩⟩
    · cases t <;> simp [chkS] at h
    · cases tg with
      | Name x p =>
        cases t with
        | tup ts => simp [chkS] at h
        | name i =>
          simp only [chkS, Bool.and_eq_true, decide_eq_true_eq] at h
          obtain ⟨h1, h2⟩ := st_ok (X := X) (fn := fun _ => true) (fun x _ => g.fnT x) h.1.1.2
          have hE := snd c X g.toGoodX e h.1.2
          by_cases hc : isComp e = false
          · exact sS_set g.nd h.1.1.1 h1 h2 hE.pe (sw_false hc)
          · cases e <;> first | (simp [isComp] at hc; done) | skip
            · rename_i elt gs scope epos
              have hsw := sw_comp (elt := elt) (gs := gs) (scope := scope) (pos := epos) (py := p) (y := x) (l := pos.line) g.kind
              cases hb : swB X.env.scope scope x p epos with
              | false => rw [hb] at hsw; exact sS_set g.nd h.1.1.1 h1 h2 hE.pe hsw
              | true =>
                rw [hb] at hsw
                have hloc : X.env.scope.names.lookup x = some .local := by
                  have z := hb
                  unfold swB at z
                  simp only [Bool.and_eq_true] at z
                  have z1 := z.1.1
                  split at z1
                  · assumption
                  · cases z1
                cases c with
                | comp e0 t own it c =>
                  have hq := h.1.2
                  rcases gs with _ | ⟨⟨tg, iter, ifs, asy⟩, _ | ⟨g2, gs⟩⟩
                  · simp [chkE] at hq
                  · simp only [chkE, Bool.and_eq_true, beq_iff_eq] at hq
                    have ea := hq.1.1.1.1.1.1.1
                    subst ea
                    have hi := sndI it X g.toGoodX _ _ hq.1.1.1.1.2
                    refine sS_setLc g.calm g.nd h.1.1.1 hloc hsw hi.1 (blkOk_by hq.1.1.1.1.1.1.2) (fun i hi => ?_) (fun s H Cc cl fp => ?_) (fun s H Cc cl fp => ?_) (fun s H Cc cl fp => ?_) hi.2
                    · have z := List.all_eq_true.mp hq.1.1.1.1.1.2 i hi
                      simpa using z
                    · exact sndG (X := X.blk s H scope (compEnvC scope cl Cc X.env) fp) g.calm g.nd (fn := fun x => scope.names.lookup x == some .cell) (fun x q => q) hq.1.1.1.2
                    · exact sndC c _ (g.toGoodX.blk s H scope (compEnvC scope cl Cc X.env) fp) _ hq.1.1.2
                    · exact (snd e0 _ (g.toGoodX.blk s H scope (compEnvC scope cl Cc X.env) fp) _ hq.1.2).pe
                  · simp [chkE] at hq
                | _ =>
                  have z := h.2
                  simp only [hb] at z
                  cases z
            · have z := h.2
              cases c <;> simp [isComp] at z
            · have z := h.2
              cases c <;> simp [isComp] at z
      | Tuple es kk p =>
        have h' : (chkG X.N (fun _ => true) X.env.scope t (.Tuple es kk p) && chkE G X.N c X.env.scope e && !isComp e && swNone es e) = true := by
          cases t <;> simpa only [chkS] using h
        simp only [Bool.and_eq_true, Bool.not_eq_true'] at h'
        refine sS_asg (snd c X g.toGoodX e h'.1.1.2).pe (sndG g.calm g.nd (fn := fun _ => true) (fun x _ => g.fnT x) h'.1.1.1) (by simp only [swapsWithSole]; exact sw_false h'.1.2) ?_ rfl
        exact sw_none h'.2
      | _ => cases t <;> simp [chkS] at h
    · cases t <;> cases tg <;> simp [chkS] at h
  | _ => cases t <;> simp [chkS] at h
theorem zS_par {i j : Nat} {a b : CE} : ZS G C k (.par i j a b) := fun X g s h => by
  unfold chkS at h
  split at h
  all_goals try contradiction
  · rename_i i' j' a' b' x px y py _ _ ea eb _ _ _ he
    cases he
    simp only [Bool.and_eq_true, decide_eq_true_eq, Bool.not_eq_true'] at h
    obtain ⟨⟨⟨⟨⟨⟨⟨⟨⟨⟨⟨⟨hi, hj⟩, hij⟩, hx⟩, hy⟩, hl⟩, hne⟩, hsa⟩, hsb⟩, hf⟩, hc⟩, ha⟩, hb⟩ := h
    exact sS_par g.calm g.nd hi hj (by simpa using hij) (locB_ok hx) (locB_ok hy) (snd a X g.toGoodX ea ha).pe (snd b X g.toGoodX eb hb).pe hsa hsb (sw_par g.kind hx hy hl hne hsa hsb hf hc)
theorem zS_par3 {i j l : Nat} {a b c : CE} : ZS G C k (.par3 i j l a b c) := fun X g s h => by
  unfold chkS at h
  split at h
  all_goals try contradiction
  · rename_i he
    cases he
    simp only [Bool.and_eq_true, decide_eq_true_eq, Bool.not_eq_true'] at h
    obtain ⟨⟨⟨⟨⟨⟨⟨⟨hi, hj⟩, hl⟩, hij⟩, hil⟩, hjl⟩, ⟨⟨⟨⟨⟨⟨⟨hx, hy⟩, hz⟩, hp⟩, hp2⟩, hxy⟩, hxz⟩, hyz⟩⟩, ⟨⟨⟨⟨hsa, hsb⟩, hsc⟩, hf⟩, hcn⟩⟩, ⟨⟨ha, hb⟩, hcc⟩⟩ := h
    exact sS_par3 g.calm g.nd hi hj hl (by simpa using hij) (by simpa using hil) (by simpa using hjl) (locB_ok hx) (locB_ok hy) (locB_ok hz) (snd a X g.toGoodX _ ha).pe (snd b X g.toGoodX _ hb).pe (snd c X g.toGoodX _ hcc).pe hsa hsb hsc (sw_par3 g.kind hx hy hz hp hp2 hxy hxz hyz hsa hsb hsc hf hcn)
theorem zS_app {l v : CE} : ZS G C k (.app l v) := fun X g s h => by
  cases s with
  | Expr e pos =>
    cases e with
    | Call fe es kws cpos =>
      cases fe with
      | Attribute o attr apos =>
        cases kws with
        | cons kw kws => rcases es with _ | ⟨e1, _ | ⟨e2, es⟩⟩ <;> simp [chkS] at h
        | nil =>
          rcases es with _ | ⟨e1, _ | ⟨e2, es⟩⟩ <;> simp only [chkS, Bool.false_eq_true] at h
          simp only [Bool.and_eq_true, decide_eq_true_eq] at h
          have ea := h.1.1.1.1.1
          subst ea
          exact sS_app (snd l X g.toGoodX o h.1.2).pe (snd v X g.toGoodX e1 h.2).pe h.1.1.1.1.2 h.1.1.1.2 h.1.1.2
      | _ => simp [chkS] at h
    | _ => simp [chkS] at h
  | _ => simp [chkS] at h
theorem zS_ret {c : CE} : ZS G C k (.ret c) := fun X g s h => by
  cases s with
  | Return e pos =>
    cases e with
    | none => simp [chkS] at h
    | some e =>
      simp only [chkS] at h
      exact sS_ret (snd c X g.toGoodX e h).pe
  | _ => simp [chkS] at h
theorem zS_cond {c : CE} {a b : CSs} (ia : ZSs G C k a) (ib : ZSs G C k b) : ZS G C k (.cond c a b) := fun X g s h => by
  cases s with
  | If e sa sb pos =>
    simp only [chkS, Bool.and_eq_true] at h
    exact sS_cond ((snd c X g.toGoodX e h.1.1.1).pt h.1.1.2) (ia X g sa h.1.2) (ib X g sb h.2)
  | _ => simp [chkS] at h
theorem zS_loop {t : Tg} {it : IT} {b : CSs} (ib : ZSs G C k b) : ZS G C k (.loop t it b) := fun X g s h => by
  cases s with
  | For tg iter body els pos =>
    cases els with
    | cons x xs => simp [chkS] at h
    | nil =>
      simp only [chkS, Bool.and_eq_true] at h
      have hi := sndI it X g.toGoodX iter tg h.1.1
      exact sS_for g.po g.calm hi.1 (sndG g.calm g.nd (fn := fun _ => true) (fun x _ => g.fnT x) h.1.2) (ib X g body h.2) hi.2
  | _ => simp [chkS] at h
theorem zS_whl {c : CE} {b : CSs} (ib : ZSs G C k b) : ZS G C k (.whl c b) := fun X g s h => by
  cases s with
  | While e body els pos =>
    cases els with
    | cons x xs => simp [chkS] at h
    | nil =>
      simp only [chkS, Bool.and_eq_true] at h
      exact sS_whl g.po ((snd c X g.toGoodX e h.1.1).pt h.1.2) (ib X g body h.2)
  | _ => simp [chkS] at h
theorem zS_drop {c : CE} : ZS G C k (.drop c) := fun X g s h => by
  cases s with
  | Expr e pos =>
    simp only [chkS, Bool.and_eq_true, Bool.not_eq_true'] at h
    exact sS_drop (snd c X g.toGoodX e h.1).pe h.2
  | _ => simp [chkS] at h
theorem zSs_nil : ZSs G C k .nil := fun X g s h => by
  cases s with
  | nil => exact sS_nil
  | cons s ss => simp [chkSs] at h
theorem zSs_cons {c : CS} {cs : CSs} (i : ZS G C k c) (is : ZSs G C k cs) : ZSs G C k (.cons c cs) := fun X g s h => by
  cases s with
  | nil => simp [chkSs] at h
  | cons s ss =>
    simp only [chkSs, Bool.and_eq_true] at h
    exact sS_cons (i X g s h.1) (is X g ss h.2)
mutual
theorem zS : ∀ c : CS, ZS G C k c
  | .asg t c => zS_asg
  | .par i j a b => zS_par
  | .par3 i j l a b c => zS_par3
  | .app l e => zS_app
  | .ret e => zS_ret
  | .cond c a b => zS_cond (zSs a) (zSs b)
  | .loop t it b => zS_loop (zSs b)
  | .whl c b => zS_whl (zSs b)
  | .drop e => zS_drop
  | .never => fun X g s h => sS_never
theorem zSs : ∀ c : CSs, ZSs G C k c
  | .nil => zSs_nil
  | .cons s ss => zSs_cons (zS s) (zSs ss)
end
end
/-! ### the whole text -/
/-- a def of the text, checked -/
structure DefOk (G : GI) (K : PySem.W.Frag) (mg : Str → Option Value) (fd : FD) (fa : Addr) (fdt : FuncData) (ps : List Str) : Prop where
  at_ : mg fd.name = some (.ref fa)
  ok : ∃ (qual : Str) (params : Arguments) (body : List Stmt) (scope : Scope), FunD K fd.name qual params body scope [] [] fa fdt ∧ FnScope fd.ns ps scope ∧ chkSs G fd.ns scope fd.body body = true
  len : ps.length = fd.np
  bnd : Binds K fdt ps []
structure ProgOk (G : GI) (w : World) (K : PySem.W.Frag) (mg : Str → Option Value) : Prop where
  blt : ∀ x ∈ bltNames, mg x = none
  con : ∀ x p, G.cons.lookup x = some p → ∃ u v, mg x = some u ∧ RelV v u ∧ RpK K v p
  tab : ∀ x t, G.tabs.lookup x = some t → ∃ a, mg x = some (.ref a) ∧ ∀ z d, t.lookup z = some d → ∃ v, KDct K w a z v ∧ RpK K v d
  fn : ∀ (f : Nat) fd, G.fns[f]? = some fd → ∃ fa fdt ps, DefOk G K mg fd fa fdt ps
theorem prog_fn {G : GI} {P : Program} {w : World} {K : PySem.W.Frag} {mg : Str → Option Value} {base : Heap} (pg : ProgOk G w K mg) : ∀ (k f : Nat) (fd : FD) (fa : Addr) (fdt : FuncData) (ps : List Str), G.fns[f]? = some fd → DefOk G K mg fd fa fdt ps → FnG P w K mg base CX0 k fa fdt ps (spF K fd.np (evF G.fns k f))
  | 0, f, fd, fa, fdt, ps, hf, d => by
    refine ⟨fun vs H Q E h => ?_, fun A outer s H args us vs Q E hr gd e0 hb hv h => ?_⟩
    · obtain ⟨_, _, _, _, _, _, _, o⟩ := h
      exact o.elim
    · obtain ⟨_, _, _, _, _, _, _, o⟩ := h
      exact o.elim
  | k + 1, f, fd, fa, fdt, ps, hf, d => by
    obtain ⟨qual, params, body, scope, F, Sc, hc⟩ := d.ok
    have e : evF G.fns (k + 1) f = runF (evF G.fns k) fd := by
      funext ds S
      simp only [evF, hf]
    rw [e]
    refine fn_ok F Sc d.len fun cdv A outer s H E hr gd => ?_
    refine zSs fd.body (G := G) (C := evF G.fns k) (k := k) (cxOf CX0 P w K mg base fd.ns qual scope fa cdv A outer s H E).nox ⟨⟨rfl, Sc.nd, hr, gd, pg.blt, pg.con, pg.tab, fun f' fd' hf' => ?_⟩, fun _ => rfl, PassesOwn.never, Sc.kind⟩ body hc
    obtain ⟨fa', fdt', ps', d'⟩ := pg.fn f' fd' hf'
    obtain ⟨_, _, _, _, F', _, _⟩ := d'.ok
    exact ⟨fun ds S h => call_len hf' h, fa', fdt', ps', d'.at_, F'.kp, d'.bnd, prog_fn pg k f' fd' fa' fdt' ps' hf' d'⟩
end L2.LC

set_option maxHeartbeats 4000000
/-! LC: from the head's facts to the law's end. -/
namespace L2.LC
open PySem PySem.Spec PyProof.Rows
/-- a written value is the data p -/
def rpB (K : PySem.W.Frag) : Nat → Value → PyData → Bool
  | _, .none, .none => true
  | _, .bool a, .bool b => a == b
  | _, .int a _, .int b => a == b
  | _, .str a _, .str b => decide (a = b)
  | n + 1, .ref a, .tuple ps => (match K.lookup a with
    | some ⟨cls, _, .seq its _, _⟩ => decide (cls = .type "tuple") && decide (its.size ≤ sizeLine) && (its.toList.length == ps.length) && (its.toList.zip ps).all (fun q => rpB K n q.1 q.2)
    | _ => false)
  | _, _, _ => false
theorem rpB_all {K : PySem.W.Frag} {n : Nat} (ih : ∀ u p, rpB K n u p = true → ∃ v, RelV v u ∧ RpK K v p) : ∀ {us : List Value} {ps : List PyData}, us.length = ps.length → (us.zip ps).all (fun q => rpB K n q.1 q.2) = true → ∃ vs, Vals vs us ∧ RpAll K (fun _ => none) (fun _ => False) vs ps
  | [], [], _, _ => ⟨[], .nil, .nil⟩
  | [], _ :: _, h, _ => by simp at h
  | _ :: _, [], h, _ => by simp at h
  | u :: us, p :: ps, h, q => by
    simp only [List.zip_cons_cons, List.all_cons, Bool.and_eq_true] at q
    obtain ⟨v, r1, r2⟩ := ih u p q.1
    obtain ⟨vs, r3, r4⟩ := rpB_all ih (by simpa using h) q.2
    exact ⟨v :: vs, .cons r1 r3, .cons r2 r4⟩
theorem rpB_ok {K : PySem.W.Frag} : ∀ (n : Nat) (u : Value) (p : PyData), rpB K n u p = true → ∃ v, RelV v u ∧ RpK K v p
  | n, u, p, h => by
    unfold rpB at h
    split at h
    · exact ⟨.non, rfl, .non⟩
    · rename_i a b
      have e : a = b := by simpa using h
      subst e
      exact ⟨.bl a, rfl, .bl a⟩
    · rename_i a t b
      have e : a = b := by simpa using h
      subst e
      exact ⟨.int a, ⟨t, rfl⟩, .int a⟩
    · rename_i a t b
      have e : a = b := by simpa using h
      subst e
      exact ⟨.str a, ⟨t, rfl⟩, .str a⟩
    · rename_i n a ps
      split at h
      · rename_i cls dd its m sl hl
        simp only [Bool.and_eq_true, decide_eq_true_eq, beq_iff_eq] at h
        obtain ⟨vs, h1, h2⟩ := rpB_all (rpB_ok n) h.1.2 h.2
        refine ⟨.ref a, rfl, .tup (.inr ⟨_, its, m, hl, h.1.1.1, rfl, h.1.1.2, h1⟩) ?_ h2⟩
        have e := h.1.2
        simp only [Array.length_toList] at e
        rw [← e]; exact h.1.1.2
      · cases h
    · cases h
def conK (K : PySem.W.Frag) (x : Str) (p : PyData) : Bool := match PySem.W.nsIn K mainGlobals x with
  | some (some u) => rpB K 8 u p
  | _ => false
def valK (K : PySem.W.Frag) (x : Str) (t : List (Str × PyData)) : Bool := t.all fun q => match PySem.W.nsIn K (He.ga K x) q.1 with
  | some (some u) => rpB K 8 u q.2
  | _ => false
/-- a def of the text: the core, where it stands, its parameters -/
structure DefIn where
  fd : FD
  d : He.DefD
  ps : List Str
structure DefIn.Ok (G : GI) (x : DefIn) : Prop where
  name : x.d.name = x.fd.name
  at_ : x.d.at_ = (x.fd.name, none)
  dfl : x.d.dfl = []
  kwd : x.d.kwd = []
  sc : FnScope x.fd.ns x.ps x.d.scope
  len : x.ps.length = x.fd.np
  chk : chkSs G x.fd.ns x.d.scope x.fd.body x.d.body = true
  bnd : ∀ (kV doc pm : Value) (an : Option Addr) (cdv ct : Value) (us : List Value), us.length = x.ps.length → bindArgs (PySem.W.fnOf x.d.name x.d.qual x.d.params x.d.body x.d.scope .none kV doc pm an cdv ct) ⟨us, []⟩ = pure (x.ps.zip us)
def faOf (defs : List DefIn) (G : GI) : List He.Fa := defs.map (fun x => .glo x.fd.name) ++ bltNames.map .free ++ G.tabs.map (fun t => .glo t.1)
def tsOf (G : GI) : List He.Tab := G.tabs.map fun t => (fun K => He.ga K t.1, t.2.map (·.1))
def exOf (G : GI) (K : PySem.W.Frag) : Bool := G.cons.all (fun q => conK K q.1 q.2) && G.tabs.all fun t => valK K t.1 t.2
theorem lookup_mem' {α : Type} {x : Str} {p : α} : ∀ {l : List (Str × α)}, l.lookup x = some p → (x, p) ∈ l
  | [], h => by cases h
  | (y, q) :: r, h => by
    rw [List.lookup_cons] at h
    split at h
    · rename_i e
      have e' : x = y := by simpa using e
      cases h
      subst e'
      exact List.mem_cons_self ..
    · exact List.mem_cons_of_mem _ (lookup_mem' h)
theorem progOk {G : GI} {defs : List DefIn} {w : World} {K : PySem.W.Frag} {h : Heap} {mg : Str → Option Value} (hG : G.fns = defs.map (·.fd)) (ok : ∀ x ∈ defs, x.Ok G) (X : K.In h) (N : h.Ns mainGlobals mg)
    (c : He.SaysX (faOf defs G) (defs.map (·.d)) (tsOf G) [] (exOf G) w h K) : ProgOk G w K mg := by
  have hD := c.t.d
  have hex := c.more
  unfold exOf at hex
  rw [Bool.and_eq_true] at hex
  have glo : ∀ x ∈ defs, mg x.fd.name = some (.ref (He.ga K x.fd.name)) := fun x hx => He.glo_ok X N (He.SaysD.facts hD (by
    unfold faOf
    exact List.mem_append_left _ (List.mem_append_left _ (List.mem_map.mpr ⟨x, hx, rfl⟩))))
  refine ⟨fun x hx => He.free_ok X N (He.SaysD.facts hD (by
    unfold faOf
    exact List.mem_append_left _ (List.mem_append_right _ (List.mem_map.mpr ⟨x, hx, rfl⟩)))), fun x p e => ?_, fun x t e => ?_, fun f fd e => ?_⟩
  · have q := List.all_eq_true.mp hex.1 _ (lookup_mem' e)
    unfold conK at q
    split at q
    · rename_i u hu
      obtain ⟨v, r1, r2⟩ := rpB_ok _ _ _ q
      exact ⟨u, v, PySem.W.mg_of X N hu, r1, r2⟩
    · cases q
  · have hm := lookup_mem' e
    refine ⟨He.ga K x, He.glo_ok X N (He.SaysD.facts hD (by
      unfold faOf
      exact List.mem_append_right _ (List.mem_map.mpr ⟨_, hm, rfl⟩))), fun z d ez => ?_⟩
    obtain ⟨i, hi, ei⟩ := List.mem_iff_getElem.mp hm
    obtain ⟨es, n, kd⟩ := He.SaysT.tab c.t i (t := (fun K => He.ga K x, t.map (·.1))) (by
      unfold tsOf
      rw [List.getElem?_map, List.getElem?_eq_getElem hi, ei]
      rfl)
    have q := List.all_eq_true.mp hex.2 _ hm
    have q2 := List.all_eq_true.mp q _ (lookup_mem' ez)
    simp only at q2
    split at q2
    · rename_i u hu
      obtain ⟨v, r1, r2⟩ := rpB_ok _ _ _ q2
      exact ⟨v, ⟨es, n, u, kd.at_, kd.lit, hu, r1⟩, r2⟩
    · cases q2
  · rw [hG, List.getElem?_map] at e
    obtain ⟨x, ex, rfl⟩ := Option.map_eq_some_iff.mp e
    have hx := List.mem_of_getElem? ex
    have o := ok x hx
    obtain ⟨fdt, F⟩ := He.SaysD.defs hD (d := x.d) (List.mem_map.mpr ⟨x, hx, rfl⟩)
    have e1 : x.d.dvs K = [] := by unfold He.DefD.dvs; rw [o.dfl]; rfl
    have e2 : x.d.kws K = [] := by unfold He.DefD.kws; rw [o.kwd]; rfl
    rw [e1, e2] at F
    have e3 : He.fAd K x.d.at_ = He.ga K x.fd.name := by rw [o.at_]; rfl
    rw [e3] at F
    have bb := F.bindsN (ps := x.ps) fun kV doc pm an cdv ct us hl => o.bnd kV doc pm an cdv ct us hl
    rw [o.name] at F
    exact ⟨He.ga K x.fd.name, fdt, x.ps, glo x hx, ⟨x.d.qual, x.d.params, x.d.body, x.d.scope, F, o.sc, o.chk⟩, o.len, bb⟩
/-- the law's own promise by the core -/
theorem sp_law {K : PySem.W.Frag} {m : List D → Hs → R D} {H : Hp} {a : Addr} {ns : List Int} {n : Nat} (hn : n ≤ sizeLine) (hl : ns.length ≤ n) (hS : SqL K H a (ns.map V.int)) (hm : ∃ S', m [.scr ns] [] = .ok (dB true) S') : spF K 1 m [.ref a] H (fun v _ => v = .bl true) E0 := by
  obtain ⟨S', e⟩ := hm
  refine ⟨fun _ => False, [], [], [.scr ns], ⟨fun _ h => h.elim, rfl, .nil, fun _ h => (nomatch h), fun n o a h => (by simp at h)⟩, .cons ⟨a, rfl, by omega, ?_⟩ .nil, rfl, ?_⟩
  · rcases hS with h | h
    · refine .inl ⟨h, fun z => ?_⟩
      rcases z with ⟨n, o, h1, _⟩ | z
      · simp at h1
      · exact z
    · exact .inr h
  · rw [e]
    intro v μ' H' _ _ r
    cases r
    rfl
/-- the one row of the world that a dict display at the top asks -/
def setRow (w : World) (b : Bool) : World := { w with params := { w.params with followText := fun x => if x = "special-get-raises" then b else w.params.followText x } }
theorem by_row {P : World → Prop} (h : ∀ (w : World) (b : Bool), P (setRow w b)) (w : World) : P w := by
  have e : w = setRow w (w.params.followText "special-get-raises") := by
    obtain ⟨d, p⟩ := w
    unfold setRow
    congr 1
    cases p
    congr 1
    funext x
    split
    · rename_i e; rw [e]
    · rfl
  rw [e]
  exact h w _
def trueR : R D → Bool
  | .ok (.dat (.bool true)) _ => true
  | _ => false
theorem true_of {r : R D} (h : trueR r = true) : ∃ S', r = .ok (dB true) S' := by
  unfold trueR at h
  split at h
  · exact ⟨_, rfl⟩
  · cases h
/-- the heap at the law's start: the script alone may be tracked -/
def scriptH (a : Addr) (o : Obj) (xs : List V) : Hp := fun b => if b = a then some (.frz o (.lst xs)) else none
/-- the law is called: no guard stands around -/
theorem law_callG {P : Program} {w : World} {K : PySem.W.Frag} {mg mb : Str → Option Value} {k : Nat} {fa a : Addr} {fd : FuncData} {x : Str} {sp : Sp} {s₁ : Shared} {vs : List Value} {ns : List Int}
    (KX : K.In s₁.heap) (hns : s₁.heap.Ns mainGlobals mg) (hb : s₁.heap.Ns builtinsNs mb) (hbb : ∀ x : Str, x ≠ "__name__" → mb x = bootBuiltins x) (hlim : s₁.heap.NoLimit) (hg : s₁.gens = #[])
    (ha : s₁.heap.get? a = some { cls := .type "list", data := .seq vs.toArray }) (hi : IntsAre vs ns) (hl : ns.length ≤ sizeLine) (hr : Room k callerA)
    (F : ∀ base : Heap, K.In base → base.Ns mainGlobals mg → FnG P w K mg base CX0 k fa fd [x] sp) (hbind : ∀ (s : Shared) (u : Value), BindsTo s fd ⟨[u], []⟩ [(x, u)])
    (hsp : ∀ H : Hp, Only H → SqL K H a (ns.map V.int) → sp [.ref a] H (fun v _ => v = .bl true) E0) :
    codeAny (model P w) callerA (.call (.ref fa) ⟨[.ref a], []⟩) (fun r s' => r = .ok (.ret (.bool true)) ∧ OldK s₁.heap s'.heap ∧ s'.os = s₁.os ∧ AllBare s'.gens) s₁ := by
  have rv := vals_ints hi
  have go : ∀ H : Hp, Only H → SqL K H a (ns.map V.int) → HOk P w H s₁.heap → (∀ b u, H b = some u → b = a ∧ K.lookup a = none) →
      codeAny (model P w) callerA (.call (.ref fa) ⟨[.ref a], []⟩) (fun r s' => r = .ok (.ret (.bool true)) ∧ OldK s₁.heap s'.heap ∧ s'.os = s₁.os ∧ AllBare s'.gens) s₁ := by
    intro H hO hS hok hA
    have dictFree : ∀ {b : Addr} {o : Obj} {es : Array DictEntry} {ep : Nat}, s₁.heap.get? b = some o → o.data = .dict es ep → H b = none := fun {b o es ep} e d => by
      cases q : H b with
      | none => rfl
      | some u =>
        obtain ⟨rfl, _⟩ := hA b u q
        rw [ha] at e
        cases e
        cases d
    have nsK : ∀ {b : Addr} {m : Str → Option Value}, s₁.heap.Ns b m → (hidT s₁.heap H).Ns b m := fun ⟨o, es, ep, e, d, r⟩ => ⟨o, es, ep, hidT_get e (dictFree e d), d, r⟩
    have kin : K.In (hidT s₁.heap H) := fun b o e => hidT_get (KX b o e) (by
      cases q : H b with
      | none => rfl
      | some u =>
        obtain ⟨rfl, z⟩ := hA b u q
        rw [z] at e
        cases e)
    have hM : Mod K mg (hidT s₁.heap H) := ⟨kin, nsK hns, ⟨mb, nsK hb, hbb⟩, hlim.elim fun mc z => ⟨mc, nsK z.1, z.2⟩⟩
    have e0 : Env0 P w K mg (hidT s₁.heap H) callerA [] s₁ H := ⟨rfl, hM, fun b o e => of_hidT e, Nat.le_of_eq (hidT_size _ _), trivial, fun b hb => absurd hb List.not_mem_nil, hok, .of_eq hg⟩
    refine codeAny_mono ((F _ kin (nsK hns)).run callerA [] s₁ H ⟨[.ref a], []⟩ [.ref a] [.ref a] _ _ hr rfl e0 (hbind s₁ (.ref a)) (.cons rfl .nil) (hsp H hO hS)) fun r s' h => ?_
    rcases r with e | fl
    · exact False.elim h
    · cases fl with
      | ret u =>
        obtain ⟨v, H', os, bare, un, hok', r', q⟩ := h
        cases q
        cases r'
        refine ⟨rfl, OldK.of_keep fun b o e => ?_, os, bare⟩
        rcases hO b with z | ⟨ob, xs, z⟩
        · exact un.keep b o e z (fun z => absurd z List.not_mem_nil) List.not_mem_nil
        · have e1 := (hok b _ z).1
          rw [e] at e1
          cases e1
          exact (hok' b _ (un.frzs b _ _ z)).1
      | _ => exact False.elim h
  cases hk : K.lookup a with
  | some o =>
    have e := KX a o hk
    rw [ha] at e
    cases e
    exact go (fun _ => none) (fun _ => .inl rfl) (.inr ⟨_, vs.toArray, _, hk, rfl, rfl, rfl, by rw [List.size_toArray, hi.length]; exact hl, by simpa using rv⟩) (fun b u z => nomatch z) (fun b u z => nomatch z)
  | none =>
    have tr : ∀ {b : Addr} {u : HO}, scriptH a { cls := .type "list", data := .seq vs.toArray } (ns.map V.int) b = some u → b = a ∧ u = .frz { cls := .type "list", data := .seq vs.toArray } (.lst (ns.map V.int)) := fun {b u} z => by
      unfold scriptH at z
      split at z
      · cases z; exact ⟨by assumption, rfl⟩
      · cases z
    refine go (scriptH a { cls := .type "list", data := .seq vs.toArray } (ns.map V.int)) (fun b => ?_) (.inl (.inr ⟨{ cls := .type "list", data := .seq vs.toArray }, if_pos rfl⟩)) (fun b u z => ?_) fun b u z => ⟨(tr z).1, hk⟩
    · by_cases hb : b = a
      · exact .inr ⟨_, _, if_pos hb⟩
      · exact .inl (if_neg hb)
    · obtain ⟨rfl, rfl⟩ := tr z
      exact ⟨ha, by rw [List.length_map]; exact hl, vs, _, rv, ha⟩
/-- a law's end over a head by facts -/
theorem walk_G {l : PySem.W.OpenLaw} {n k : Nat} {q : Program} {loose : List Str} {XP : (Str → Option Value) → Heap → Prop} {YP : World → Heap → Prop} {d : DefRec} {x : Str}
    (hn : l.most = some n) (hn2 : n ≤ sizeLine) (hdf : d.params.defaults = []) (hr : Room k callerA)
    (F : ∀ (w : World) (mg : Str → Option Value) (fa : Addr) (h : Heap), YP w h → h.Ns mainGlobals mg → mg d.name = some (.ref fa) →
      ∃ (K : PySem.W.Frag) (fd : FuncData) (sp : Sp), K.In h ∧ (∀ (s : Shared) (u : Value), BindsTo s fd ⟨[u], []⟩ [(x, u)]) ∧
        (∀ (H : Hp) (a : Addr) (ns : List Int), ns.length ≤ n → Only H → SqL K H a (ns.map V.int) → sp [.ref a] H (fun v _ => v = .bl true) E0) ∧
        ∀ base : Heap, K.In base → base.Ns mainGlobals mg → FnG l.prog w K mg base CX0 k fa fd [x] sp) :
    PySem.W.WalkO q loose XP YP l.row.toRowW d [] (fun f vs => PySem.call f vs) := by
  refine Att.attach_call hn hdf fun w s₀ s₁ mg mb fa o pm cd doc a vs ns G Y ho hd hcd hmg hobj hints hlen hg => ?_
  obtain ⟨K, fd, sp, KX, hb, hsp, hF⟩ := F w mg fa _ Y G.T.g hmg
  exact law_callG KX G.T.g G.T.b G.T.builtins G.T.nolimit hg hobj hints (Nat.le_trans hlen hn2) hr hF hb fun H hO hS => hsp H a ns hlen hO hS
/-- the whole: head facts, checked defs, the law's own value in the core -/
theorem law_fin {G : GI} {defs : List DefIn} {prog : Program} {w : World} {K : PySem.W.Frag} {h : Heap} {mg : Str → Option Value} {k f n : Nat} {fa : Addr} {x : DefIn} {p : Str} (hG : G.fns = defs.map (·.fd)) (ok : ∀ x ∈ defs, x.Ok G)
    (KX : K.In h) (N : h.Ns mainGlobals mg) (c : He.SaysX (faOf defs G) (defs.map (·.d)) (tsOf G) [] (exOf G) w h K) (hx : defs[f]? = some x) (hp : x.ps = [p]) (hm : mg x.fd.name = some (.ref fa)) (hn : n ≤ sizeLine)
    (hl : ∀ ns : List Int, ns.length ≤ n → ∃ S', evF G.fns k f [.scr ns] [] = .ok (dB true) S') :
      ∃ (K : PySem.W.Frag) (fd : FuncData) (sp : Sp), K.In h ∧ (∀ (s : Shared) (u : Value), BindsTo s fd ⟨[u], []⟩ [(p, u)]) ∧
        (∀ (H : Hp) (a : Addr) (ns : List Int), ns.length ≤ n → Only H → SqL K H a (ns.map V.int) → sp [.ref a] H (fun v _ => v = .bl true) E0) ∧
        ∀ base : Heap, K.In base → base.Ns mainGlobals mg → FnG prog w K mg base CX0 k fa fd [p] sp := by
  have hmem := List.mem_of_getElem? hx
  have o := ok x hmem
  have pg := progOk hG ok KX N c
  have hf : G.fns[f]? = some x.fd := by rw [hG, List.getElem?_map, hx]; rfl
  obtain ⟨fa', fdt, ps, d⟩ := pg.fn f x.fd hf
  -- the function object is the one of the facts
  obtain ⟨fdt2, F⟩ := He.SaysD.defs c.t.d (d := x.d) (List.mem_map.mpr ⟨x, hmem, rfl⟩)
  have e1 : x.d.dvs K = [] := by unfold He.DefD.dvs; rw [o.dfl]; rfl
  have e2 : x.d.kws K = [] := by unfold He.DefD.kws; rw [o.kwd]; rfl
  rw [e1, e2] at F
  have e3 : He.fAd K x.d.at_ = He.ga K x.fd.name := by rw [o.at_]; rfl
  rw [e3] at F
  have glo : mg x.fd.name = some (.ref (He.ga K x.fd.name)) := He.glo_ok KX N (He.SaysD.facts c.t.d (by
    unfold faOf
    exact List.mem_append_left _ (List.mem_append_left _ (List.mem_map.mpr ⟨x, hmem, rfl⟩))))
  have efa : He.ga K x.fd.name = fa := by
    rw [glo] at hm
    injection hm with z
    injection z
  rw [efa] at F
  have bb := F.bindsN (ps := x.ps) fun kV doc pm an cdv ct us hl => o.bnd kV doc pm an cdv ct us hl
  have hbt : ∀ (s : Shared) (u : Value), BindsTo s fdt2 ⟨[u], []⟩ [(p, u)] := fun s u => by
    have z := F.bindsA (ps := x.ps) (fun kV doc pm an cdv ct us hl => o.bnd kV doc pm an cdv ct us hl) s [u] (by rw [hp]; rfl)
    rw [hp] at z
    exact z
  rw [o.name] at F
  rw [hp] at bb
  have lenp : x.fd.np = 1 := by rw [← o.len, hp]; rfl
  refine ⟨K, fdt2, spF K x.fd.np (evF G.fns k f), KX, hbt, fun H a ns hle hO hS => ?_, fun base kb nb => ?_⟩
  · rw [lenp]
    exact sp_law hn hle hS (hl ns hle)
  · have r := prog_fn (P := prog) (base := base) pg k f x.fd fa fdt2 [p] hf ⟨hm, ⟨x.d.qual, x.d.params, x.d.body, x.d.scope, F, by rw [← hp]; exact o.sc, o.chk⟩, by rw [lenp]; rfl, bb⟩
    exact r
end L2.LC

namespace L2.LC.liftcalls_k05_steps_by_hand
open PySem PySem.Spec PyProof.Rows
/-! the text in the core -/
abbrev s_in : Str := ⟨#[105, 110]⟩
abbrev s_up : Str := ⟨#[117, 112]⟩
abbrev s_down : Str := ⟨#[100, 111, 119, 110]⟩
abbrev s_floors : Str := ⟨#[102, 108, 111, 111, 114, 115]⟩
abbrev s_buttons : Str := ⟨#[98, 117, 116, 116, 111, 110, 115]⟩
abbrev s_pick : Str := ⟨#[112, 105, 99, 107]⟩
abbrev s_sweep : Str := ⟨#[115, 119, 101, 101, 112]⟩
abbrev s_nearest : Str := ⟨#[110, 101, 97, 114, 101, 115, 116]⟩
abbrev s_eldest : Str := ⟨#[101, 108, 100, 101, 115, 116]⟩
abbrev s_take : Str := ⟨#[116, 97, 107, 101]⟩
abbrev s_all : Str := ⟨#[97, 108, 108]⟩
abbrev s_way : Str := ⟨#[119, 97, 121]⟩
abbrev s_end : Str := ⟨#[101, 110, 100]⟩
abbrev s_rest : Str := ⟨#[114, 101, 115, 116]⟩
abbrev s_stay : Str := ⟨#[115, 116, 97, 121]⟩
abbrev s_home : Str := ⟨#[104, 111, 109, 101]⟩
abbrev s_hold : Str := ⟨#[104, 111, 108, 100]⟩
abbrev s_quick : Str := ⟨#[113, 117, 105, 99, 107]⟩
abbrev s_open : Str := ⟨#[111, 112, 101, 110]⟩
abbrev s_floor : Str := ⟨#[102, 108, 111, 111, 114]⟩
abbrev s_heading : Str := ⟨#[104, 101, 97, 100, 105, 110, 103]⟩
abbrev s_none : Str := ⟨#[110, 111, 110, 101]⟩
abbrev s_door : Str := ⟨#[100, 111, 111, 114]⟩
abbrev s_wants : Str := ⟨#[119, 97, 110, 116, 115]⟩
abbrev s_step : Str := ⟨#[115, 116, 101, 112]⟩
abbrev s_press : Str := ⟨#[112, 114, 101, 115, 115]⟩
def tab_WAYS : List (Str × PyData) := [(s_up, (.int 1)), (s_down, (.int (-1))), (s_none, (.int 0))]
def fd_is_whole : FD := ⟨"is_whole", ["thing", "least", "most"], 3, (.cons (.ret (.and (.isi .int (.var 0)) (.and (.nt (.isi .bool (.var 0))) (.chn .le .le (.var 1) (.var 0) (.var 2))))) .nil)⟩
def fd_is_word : FD := ⟨"is_word", ["thing", "words"], 2, (.cons (.ret (.and (.isi .str (.var 0)) (.cmp .isin (.var 0) (.var 1)))) .nil)⟩
def fd_is_button : FD := ⟨"is_button", ["floors", "thing"], 2, (.cons (.cond (.or (.nt (.isi .tuple (.var 1))) (.or (.cmp .ne (.bf .len (.cons (.var 1) .nil)) (.cst (.int 2))) (.nt (.call 1 (.cons (.idx (.var 1) (.cst (.int 0))) (.cons (.tup (.cons (.cst (.str s_in)) (.cons (.cst (.str s_up)) (.cons (.cst (.str s_down)) .nil)))) .nil)))))) (.cons (.ret (.cst (.bool false))) .nil) .nil) (.cons (.ret (.call 0 (.cons (.idx (.var 1) (.cst (.int 1))) (.cons (.bf .int (.cons (.cmp .eq (.idx (.var 1) (.cst (.int 0))) (.cst (.str s_down))) .nil)) (.cons (.bin .sub (.bin .sub (.var 0) (.cst (.int 1))) (.bf .int (.cons (.cmp .eq (.idx (.var 1) (.cst (.int 0))) (.cst (.str s_up))) .nil))) .nil))))) .nil))⟩
def fd_are_rising : FD := ⟨"are_rising", ["things", "one", "other"], 1, (.cons (.ret (.bf .all (.cons (.comp (.cmp .lt (.var 1) (.var 2)) (.tup (.cons (.name 1) (.cons (.name 2) .nil))) [("one", 1), ("other", 2)] (.zip (.var 0) (.slc (.var 0) (.some (.cst (.int 1))) .none)) .none) .nil))) .nil)⟩
def fd_are_buttons : FD := ⟨"are_buttons", ["floors", "thing", "button"], 2, (.cons (.cond (.or (.nt (.call 0 (.cons (.var 0) (.cons (.cst (.int 2)) (.cons (.cst (.int 6)) .nil))))) (.or (.nt (.isi .tuple (.var 1))) (.nt (.chn .le .le (.cst (.int 1)) (.bf .len (.cons (.var 1) .nil)) (.cst (.int 6)))))) (.cons (.ret (.cst (.bool false))) .nil) .nil) (.cons (.ret (.and (.bf .all (.cons (.comp (.call 2 (.cons (.var 0) (.cons (.var 2) .nil))) (.name 2) [("button", 2)] (.seq (.var 1)) .none) .nil)) (.call 3 (.cons (.var 1) .nil)))) .nil))⟩
def fd_rule_fault : FD := ⟨"rule_fault", ["thing", "floors", "buttons", "pick", "take", "rest", "hold", "quick", "many", "rows", "wrong", "word", "is_right"], 1, (.cons (.cond (.or (.nt (.isi .tuple (.var 0))) (.cmp .ne (.bf .len (.cons (.var 0) .nil)) (.cst (.int 8)))) (.cons (.ret (.tup .nil)) .nil) .nil) (.cons (.asg (.tup (.cons (.name 1) (.cons (.name 2) (.cons (.name 3) (.cons (.name 4) (.cons (.name 5) (.cons (.name 6) (.cons (.name 7) (.cons (.name 8) .nil))))))))) (.var 0)) (.cons (.asg (.name 9) (.lst (.cons (.tup (.cons (.cst (.str s_floors)) (.cons (.call 0 (.cons (.var 1) (.cons (.cst (.int 2)) (.cons (.cst (.int 6)) .nil)))) .nil))) (.cons (.tup (.cons (.cst (.str s_buttons)) (.cons (.call 4 (.cons (.var 1) (.cons (.var 2) .nil))) .nil))) .nil)))) (.cons (.asg (.name 9) (.bin .add (.var 9) (.lst (.cons (.tup (.cons (.cst (.str s_pick)) (.cons (.call 1 (.cons (.var 3) (.cons (.cst (.tuple [(.str s_sweep), (.str s_nearest), (.str s_eldest)])) .nil))) .nil))) (.cons (.tup (.cons (.cst (.str s_take)) (.cons (.call 1 (.cons (.var 4) (.cons (.cst (.tuple [(.str s_all), (.str s_way), (.str s_end)])) .nil))) .nil))) (.cons (.tup (.cons (.cst (.str s_rest)) (.cons (.call 1 (.cons (.var 5) (.cons (.cst (.tuple [(.str s_stay), (.str s_home)])) .nil))) .nil))) .nil)))))) (.cons (.asg (.name 9) (.bin .add (.var 9) (.lst (.cons (.tup (.cons (.cst (.str s_hold)) (.cons (.isi .bool (.var 6)) .nil))) (.cons (.tup (.cons (.cst (.str s_quick)) (.cons (.isi .bool (.var 7)) .nil))) .nil))))) (.cons (.asg (.name 9) (.bin .add (.var 9) (.lst (.cons (.tup (.cons (.cst (.str s_open)) (.cons (.call 0 (.cons (.var 8) (.cons (.cst (.int 1)) (.cons (.cst (.int 3)) .nil)))) .nil))) .nil)))) (.cons (.asg (.name 10) (.comp (.tup (.cons (.var 11) .nil)) (.tup (.cons (.name 11) (.cons (.name 12) .nil))) [("word", 11), ("is_right", 12)] (.seq (.var 9)) (.some (.nt (.var 12))))) (.cons (.ret (.ite (.cmp .ne (.var 10) (.lst .nil)) (.idx (.var 10) (.cst (.int 0))) (.cst .none))) .nil))))))))⟩
def fd_need_rule : FD := ⟨"need_rule", ["thing", "place"], 1, (.cons (.asg (.name 1) (.call 5 (.cons (.var 0) .nil))) (.cons (.cond (.cmp .notN (.var 1) (.cst .none)) (.cons .never .nil) .nil) (.cons (.ret (.var 0)) .nil)))⟩
def fd_is_of : FD := ⟨"is_of", ["rule", "thing"], 2, (.cons (.ret (.and (.isi .tuple (.var 1)) (.and (.cmp .isin (.var 1) (.idx (.var 0) (.cst (.int 1)))) (.call 0 (.cons (.idx (.var 1) (.cst (.int 1))) (.cons (.cst (.int 0)) (.cons (.bin .sub (.idx (.var 0) (.cst (.int 0))) (.cst (.int 1))) .nil))))))) .nil)⟩
def fd_are_wants : FD := ⟨"are_wants", ["rule", "thing", "button"], 2, (.cons (.cond (.or (.nt (.isi .tuple (.var 1))) (.nt (.bf .all (.cons (.comp (.call 7 (.cons (.var 0) (.cons (.var 2) .nil))) (.name 2) [("button", 2)] (.seq (.var 1)) .none) .nil)))) (.cons (.ret (.cst (.bool false))) .nil) .nil) (.cons (.ret (.ite (.cmp .eq (.idx (.var 0) (.cst (.int 2))) (.cst (.str s_eldest))) (.call 3 (.cons (.bf .sorted (.cons (.var 1) .nil)) .nil)) (.call 3 (.cons (.var 1) .nil)))) .nil))⟩
def fd_state_fault : FD := ⟨"state_fault", ["rule", "thing", "floor", "heading", "door", "wants", "rows", "wrong", "word", "is_right"], 2, (.cons (.cond (.or (.nt (.isi .tuple (.var 1))) (.cmp .ne (.bf .len (.cons (.var 1) .nil)) (.cst (.int 4)))) (.cons (.ret (.tup .nil)) .nil) .nil) (.cons (.asg (.tup (.cons (.name 2) (.cons (.name 3) (.cons (.name 4) (.cons (.name 5) .nil))))) (.var 1)) (.cons (.asg (.name 6) (.lst (.cons (.tup (.cons (.cst (.str s_floor)) (.cons (.call 0 (.cons (.var 2) (.cons (.cst (.int 0)) (.cons (.bin .sub (.idx (.var 0) (.cst (.int 0))) (.cst (.int 1))) .nil)))) .nil))) (.cons (.tup (.cons (.cst (.str s_heading)) (.cons (.call 1 (.cons (.var 3) (.cons (.cst (.tuple [(.str s_up), (.str s_down), (.str s_none)])) .nil))) .nil))) .nil)))) (.cons (.asg (.name 6) (.bin .add (.var 6) (.lst (.cons (.tup (.cons (.cst (.str s_door)) (.cons (.call 0 (.cons (.var 4) (.cons (.cst (.int 0)) (.cons (.idx (.var 0) (.cst (.int 7))) .nil)))) .nil))) (.cons (.tup (.cons (.cst (.str s_wants)) (.cons (.call 8 (.cons (.var 0) (.cons (.var 5) .nil))) .nil))) .nil))))) (.cons (.asg (.name 7) (.comp (.tup (.cons (.var 8) .nil)) (.tup (.cons (.name 8) (.cons (.name 9) .nil))) [("word", 8), ("is_right", 9)] (.seq (.var 6)) (.some (.nt (.var 9))))) (.cons (.ret (.ite (.cmp .ne (.var 7) (.lst .nil)) (.idx (.var 7) (.cst (.int 0))) (.cst .none))) .nil))))))⟩
def fd_need_state : FD := ⟨"need_state", ["rule", "thing", "place"], 2, (.cons (.drop (.call 6 (.cons (.var 0) .nil))) (.cons (.asg (.name 2) (.call 9 (.cons (.var 0) (.cons (.var 1) .nil)))) (.cons (.cond (.cmp .notN (.var 2) (.cst .none)) (.cons .never .nil) .nil) (.cons (.ret (.var 1)) .nil))))⟩
def fd_free_by : FD := ⟨"free_by", ["rule", "old", "new", "button"], 4, (.cons (.cond (.or (.cmp .eq (.idx (.var 3) (.cst (.int 0))) (.cst (.str s_in))) (.or (.cmp .eq (.idx (.var 0) (.cst (.int 3))) (.cst (.str s_all))) (.cmp .eq (.var 2) (.cst (.str s_none))))) (.cons (.ret (.cst (.bool true))) .nil) .nil) (.cons (.cond (.cmp .eq (.idx (.var 0) (.cst (.int 3))) (.cst (.str s_way))) (.cons (.ret (.cmp .isin (.idx (.var 3) (.cst (.int 0))) (.tup (.cons (.var 1) (.cons (.var 2) .nil))))) .nil) .nil) (.cons (.ret (.and (.cmp .eq (.idx (.var 0) (.cst (.int 3))) (.cst (.str s_end))) (.cmp .ne (.var 1) (.var 2)))) .nil)))⟩
def fd_is_event_of : FD := ⟨"is_event_of", ["rule", "thing"], 2, (.cons (.cond (.or (.nt (.isi .tuple (.var 1))) (.or (.cmp .notin (.bf .len (.cons (.var 1) .nil)) (.tup (.cons (.cst (.int 1)) (.cons (.cst (.int 2)) .nil)))) (.nt (.isi .str (.idx (.var 1) (.cst (.int 0))))))) (.cons (.ret (.cst (.bool false))) .nil) .nil) (.cons (.cond (.cmp .eq (.bf .len (.cons (.var 1) .nil)) (.cst (.int 1))) (.cons (.ret (.cmp .eq (.var 1) (.cst (.tuple [(.str s_step)])))) .nil) .nil) (.cons (.ret (.and (.cmp .eq (.idx (.var 1) (.cst (.int 0))) (.cst (.str s_press))) (.call 7 (.cons (.var 0) (.cons (.idx (.var 1) (.cst (.int 1))) .nil))))) .nil)))⟩
def fd_towards : FD := ⟨"towards", ["floor", "goal"], 2, (.cons (.cond (.cmp .eq (.var 1) (.var 0)) (.cons (.ret (.cst (.str s_none))) .nil) .nil) (.cons (.ret (.ite (.cmp .gt (.var 1) (.var 0)) (.cst (.str s_up)) (.cst (.str s_down)))) .nil))⟩
def fd_nearest_floor : FD := ⟨"nearest_floor", ["state", "floor", "heading", "door", "wants", "rows", "word", "goal", "is_other"], 1, (.cons (.asg (.tup (.cons (.name 1) (.cons (.name 2) (.cons (.name 3) (.cons (.name 4) .nil))))) (.var 0)) (.cons (.asg (.name 5) (.mk .nil)) (.cons (.loop (.tup (.cons (.name 6) (.cons (.name 7) .nil))) (.seq (.var 4)) (.cons (.asg (.name 8) (.ite (.cmp .ne (.var 2) (.cst (.str s_down))) (.cmp .lt (.var 7) (.var 1)) (.cmp .gt (.var 7) (.var 1)))) (.cons (.app (.var 5) (.tup (.cons (.bf .abs (.cons (.bin .sub (.var 7) (.var 1)) .nil)) (.cons (.var 8) (.cons (.var 7) .nil))))) .nil))) (.cons (.ret (.idx (.bf .min1 (.cons (.var 5) .nil)) (.cst (.int 2)))) .nil))))⟩
def fd_heading_in : FD := ⟨"heading_in", ["rule", "state", "floor", "heading", "door", "wants", "is_above", "word", "goal", "is_below"], 2, (.cons (.asg (.tup (.cons (.name 2) (.cons (.name 3) (.cons (.name 4) (.cons (.name 5) .nil))))) (.var 1)) (.cons (.cond (.cmp .eq (.var 5) (.tup .nil)) (.cons (.ret (.cst (.str s_none))) .nil) .nil) (.cons (.cond (.cmp .eq (.idx (.var 0) (.cst (.int 2))) (.cst (.str s_nearest))) (.cons (.ret (.call 13 (.cons (.var 2) (.cons (.call 14 (.cons (.var 1) .nil)) .nil)))) .nil) .nil) (.cons (.cond (.cmp .eq (.idx (.var 0) (.cst (.int 2))) (.cst (.str s_eldest))) (.cons (.ret (.call 13 (.cons (.var 2) (.cons (.idx (.idx (.var 5) (.cst (.int 0))) (.cst (.int 1))) .nil)))) .nil) .nil) (.cons (.asg (.name 6) (.bf .any (.cons (.comp (.cmp .gt (.var 8) (.var 2)) (.tup (.cons (.name 7) (.cons (.name 8) .nil))) [("word", 7), ("goal", 8)] (.seq (.var 5)) .none) .nil))) (.cons (.asg (.name 9) (.bf .any (.cons (.comp (.cmp .lt (.var 8) (.var 2)) (.tup (.cons (.name 7) (.cons (.name 8) .nil))) [("word", 7), ("goal", 8)] (.seq (.var 5)) .none) .nil))) (.cons (.cond (.and (.var 6) (.nt (.and (.cmp .eq (.var 3) (.cst (.str s_down))) (.var 9)))) (.cons (.ret (.cst (.str s_up))) .nil) .nil) (.cons (.ret (.ite (.var 9) (.cst (.str s_down)) (.cst (.str s_none)))) .nil))))))))⟩
def fd_told_by : FD := ⟨"told_by", ["state", "served"], 2, (.cons (.ret (.tup (.cons (.var 0) (.cons (.tup (.cons (.idx (.var 0) (.cst (.int 0))) (.cons (.bf .tuple (.cons (.bf .sorted (.cons (.var 1) .nil)) .nil)) .nil))) .nil)))) .nil)⟩
def fd_pressed : FD := ⟨"pressed", ["rule", "state", "button", "floor", "heading", "door", "wants"], 3, (.cons (.asg (.tup (.cons (.name 3) (.cons (.name 4) (.cons (.name 5) (.cons (.name 6) .nil))))) (.var 1)) (.cons (.cond (.cmp .isin (.var 2) (.var 6)) (.cons (.ret (.call 16 (.cons (.var 1) (.cons (.lst .nil) .nil)))) .nil) .nil) (.cons (.cond (.and (.cmp .gt (.var 5) (.cst (.int 0))) (.and (.cmp .eq (.idx (.var 2) (.cst (.int 1))) (.var 3)) (.call 11 (.cons (.var 0) (.cons (.var 4) (.cons (.var 4) (.cons (.var 2) .nil))))))) (.cons (.ret (.call 16 (.cons (.tup (.cons (.var 3) (.cons (.var 4) (.cons (.ite (.idx (.var 0) (.cst (.int 5))) (.idx (.var 0) (.cst (.int 7))) (.var 5)) (.cons (.var 6) .nil))))) (.cons (.lst (.cons (.var 2) .nil)) .nil)))) .nil) .nil) (.cons (.asg (.name 6) (.bin .add (.var 6) (.tup (.cons (.var 2) .nil)))) (.cons (.ret (.call 16 (.cons (.tup (.cons (.var 3) (.cons (.var 4) (.cons (.var 5) (.cons (.ite (.cmp .eq (.idx (.var 0) (.cst (.int 2))) (.cst (.str s_eldest))) (.var 6) (.bf .tuple (.cons (.bf .sorted (.cons (.var 6) .nil)) .nil))) .nil))))) (.cons (.lst .nil) .nil)))) .nil)))))⟩
def fd_closing : FD := ⟨"closing", ["rule", "state", "floor", "heading", "door", "wants", "word", "goal"], 2, (.cons (.asg (.tup (.cons (.name 2) (.cons (.name 3) (.cons (.name 4) (.cons (.name 5) .nil))))) (.var 1)) (.cons (.cond (.and (.cmp .eq (.var 4) (.cst (.int 1))) (.and (.idx (.var 0) (.cst (.int 6))) (.bf .any (.cons (.comp (.cmp .ne (.var 7) (.var 2)) (.tup (.cons (.name 6) (.cons (.name 7) .nil))) [("word", 6), ("goal", 7)] (.seq (.var 5)) .none) .nil)))) (.cons (.asg (.name 3) (.call 15 (.cons (.var 0) (.cons (.var 1) .nil)))) (.cons (.asg (.name 2) (.bin .add (.var 2) (.tab "WAYS" tab_WAYS (.var 3)))) .nil)) .nil) (.cons (.ret (.tup (.cons (.var 2) (.cons (.var 3) (.cons (.bin .sub (.var 4) (.cst (.int 1))) (.cons (.var 5) .nil)))))) .nil)))⟩
def fd_stepped : FD := ⟨"stepped", ["rule", "state", "floor", "heading", "door", "wants", "is_led", "new", "served", "button"], 2, (.cons (.asg (.tup (.cons (.name 2) (.cons (.name 3) (.cons (.name 4) (.cons (.name 5) .nil))))) (.var 1)) (.cons (.cond (.cmp .gt (.var 4) (.cst (.int 0))) (.cons (.ret (.call 16 (.cons (.call 18 (.cons (.var 0) (.cons (.var 1) .nil))) (.cons (.lst .nil) .nil)))) .nil) .nil) (.cons (.cond (.cmp .eq (.var 5) (.tup .nil)) (.cons (.asg (.name 6) (.and (.cmp .eq (.idx (.var 0) (.cst (.int 4))) (.cst (.str s_home))) (.cmp .gt (.var 2) (.cst (.int 0))))) (.cons (.ret (.call 16 (.cons (.ite (.var 6) (.tup (.cons (.bin .sub (.var 2) (.cst (.int 1))) (.cons (.cst (.str s_down)) (.cons (.cst (.int 0)) (.cons (.tup .nil) .nil))))) (.tup (.cons (.var 2) (.cons (.cst (.str s_none)) (.cons (.cst (.int 0)) (.cons (.tup .nil) .nil)))))) (.cons (.lst .nil) .nil)))) .nil)) .nil) (.cons (.asg (.name 7) (.call 15 (.cons (.var 0) (.cons (.var 1) .nil)))) (.cons (.asg (.name 8) (.comp (.var 9) (.name 9) [("button", 9)] (.seq (.var 5)) (.some (.and (.cmp .eq (.idx (.var 9) (.cst (.int 1))) (.var 2)) (.call 11 (.cons (.var 0) (.cons (.var 3) (.cons (.var 7) (.cons (.var 9) .nil))))))))) (.cons (.cond (.cmp .ne (.var 8) (.lst .nil)) (.cons (.ret (.call 16 (.cons (.tup (.cons (.var 2) (.cons (.var 7) (.cons (.idx (.var 0) (.cst (.int 7))) (.cons (.bf .tuple (.cons (.comp (.var 9) (.name 9) [("button", 9)] (.seq (.var 5)) (.some (.cmp .notin (.var 9) (.var 8)))) .nil)) .nil))))) (.cons (.var 8) .nil)))) .nil) .nil) (.cons (.ret (.call 16 (.cons (.tup (.cons (.bin .add (.var 2) (.tab "WAYS" tab_WAYS (.var 7))) (.cons (.var 7) (.cons (.cst (.int 0)) (.cons (.var 5) .nil))))) (.cons (.lst .nil) .nil)))) .nil)))))))⟩
def fd_done : FD := ⟨"done", ["rule", "state", "event"], 3, (.cons (.ret (.ite (.cmp .eq (.var 2) (.cst (.tuple [(.str s_step)]))) (.call 19 (.cons (.var 0) (.cons (.var 1) .nil))) (.call 17 (.cons (.var 0) (.cons (.var 1) (.cons (.idx (.var 2) (.cst (.int 1))) .nil)))))) .nil)⟩
def fd_step : FD := ⟨"step", ["rule", "state", "event"], 3, (.cons (.drop (.call 10 (.cons (.var 0) (.cons (.var 1) .nil)))) (.cons (.cond (.nt (.call 12 (.cons (.var 0) (.cons (.var 2) .nil)))) (.cons .never .nil) .nil) (.cons (.ret (.call 20 (.cons (.var 0) (.cons (.var 1) (.cons (.var 2) .nil))))) .nil)))⟩
def fd_law_run_right : FD := ⟨"_law_run_right", ["_law_rule", "_law_rows", "_law_state", "_law_event", "_law_floor", "_law_served", "_law_answer"], 2, (.cons (.asg (.name 2) (.tup (.cons (.cst (.int 0)) (.cons (.cst (.str s_none)) (.cons (.cst (.int 0)) (.cons (.tup .nil) .nil)))))) (.cons (.loop (.tup (.cons (.name 3) (.cons (.name 4) (.cons (.name 5) .nil)))) (.seq (.var 1)) (.cons (.asg (.tup (.cons (.name 2) (.cons (.name 6) .nil))) (.call 21 (.cons (.var 0) (.cons (.var 2) (.cons (.var 3) .nil))))) (.cons (.cond (.cmp .ne (.bf .repr (.cons (.var 6) .nil)) (.bf .repr (.cons (.tup (.cons (.var 4) (.cons (.var 5) .nil))) .nil))) (.cons (.ret (.cst (.bool false))) .nil) .nil) .nil))) (.cons (.ret (.cst (.bool true))) .nil)))⟩
def fd_law_sweep_right : FD := ⟨"_law_sweep_right", ["_law_take", "_law_low", "_law_high", "_law_up", "_law_down", "_law_rule", "_law_go", "_law_rows"], 1, (.cons (.asg (.tup (.cons (.name 1) (.cons (.name 2) (.cons (.name 3) (.cons (.name 4) .nil))))) (.tup (.cons (.tup (.cons (.cst (.str s_in)) (.cons (.cst (.int 0)) .nil))) (.cons (.tup (.cons (.cst (.str s_in)) (.cons (.cst (.int 3)) .nil))) (.cons (.tup (.cons (.cst (.str s_up)) (.cons (.cst (.int 1)) .nil))) (.cons (.tup (.cons (.cst (.str s_down)) (.cons (.cst (.int 2)) .nil))) .nil)))))) (.cons (.par 5 6 (.tup (.cons (.cst (.int 4)) (.cons (.tup (.cons (.var 4) (.cons (.var 1) (.cons (.var 2) (.cons (.var 3) .nil))))) (.cons (.cst (.str s_sweep)) (.cons (.var 0) (.cons (.cst (.str s_stay)) (.cons (.cst (.bool false)) (.cons (.cst (.bool true)) (.cons (.cst (.int 1)) .nil))))))))) (.tup (.cons (.cst (.str s_step)) .nil))) (.cons (.asg (.name 7) (.lst (.cons (.tup (.cons (.tup (.cons (.cst (.str s_press)) (.cons (.var 3) .nil))) (.cons (.cst (.int 0)) (.cons (.tup .nil) .nil)))) (.cons (.tup (.cons (.tup (.cons (.cst (.str s_press)) (.cons (.var 2) .nil))) (.cons (.cst (.int 0)) (.cons (.tup .nil) .nil)))) (.cons (.tup (.cons (.var 6) (.cons (.cst (.int 1)) (.cons (.tup .nil) .nil)))) .nil))))) (.cons (.cond (.cmp .eq (.var 0) (.cst (.str s_end))) (.cons (.asg (.name 7) (.bin .add (.var 7) (.lst (.cons (.tup (.cons (.var 6) (.cons (.cst (.int 2)) (.cons (.tup .nil) .nil)))) (.cons (.tup (.cons (.tup (.cons (.cst (.str s_press)) (.cons (.var 4) .nil))) (.cons (.cst (.int 2)) (.cons (.tup .nil) .nil)))) (.cons (.tup (.cons (.var 6) (.cons (.cst (.int 3)) (.cons (.tup .nil) .nil)))) (.cons (.tup (.cons (.var 6) (.cons (.cst (.int 3)) (.cons (.tup (.cons (.var 2) .nil)) .nil)))) (.cons (.tup (.cons (.var 6) (.cons (.cst (.int 2)) (.cons (.tup .nil) .nil)))) .nil)))))))) (.cons (.asg (.name 7) (.bin .add (.var 7) (.lst (.cons (.tup (.cons (.var 6) (.cons (.cst (.int 1)) (.cons (.tup .nil) .nil)))) (.cons (.tup (.cons (.var 6) (.cons (.cst (.int 1)) (.cons (.tup (.cons (.var 3) .nil)) .nil)))) (.cons (.tup (.cons (.var 6) (.cons (.cst (.int 2)) (.cons (.tup .nil) .nil)))) (.cons (.tup (.cons (.var 6) (.cons (.cst (.int 2)) (.cons (.tup (.cons (.var 4) .nil)) .nil)))) (.cons (.tup (.cons (.var 6) (.cons (.cst (.int 2)) (.cons (.tup .nil) .nil)))) (.cons (.tup (.cons (.var 6) (.cons (.cst (.int 2)) (.cons (.tup .nil) .nil)))) .nil))))))))) (.cons (.ret (.call 22 (.cons (.var 5) (.cons (.var 7) .nil)))) .nil))) .nil) (.cons (.asg (.name 7) (.bin .add (.var 7) (.lst (.cons (.tup (.cons (.var 6) (.cons (.cst (.int 1)) (.cons (.tup (.cons (.var 3) .nil)) .nil)))) (.cons (.tup (.cons (.tup (.cons (.cst (.str s_press)) (.cons (.var 4) .nil))) (.cons (.cst (.int 1)) (.cons (.tup .nil) .nil)))) (.cons (.tup (.cons (.var 6) (.cons (.cst (.int 2)) (.cons (.tup .nil) .nil)))) .nil)))))) (.cons (.cond (.cmp .eq (.var 0) (.cst (.str s_all))) (.cons (.asg (.name 7) (.bin .add (.var 7) (.lst (.cons (.tup (.cons (.var 6) (.cons (.cst (.int 2)) (.cons (.tup (.cons (.var 4) .nil)) .nil)))) (.cons (.tup (.cons (.var 6) (.cons (.cst (.int 3)) (.cons (.tup .nil) .nil)))) (.cons (.tup (.cons (.var 6) (.cons (.cst (.int 3)) (.cons (.tup (.cons (.var 2) .nil)) .nil)))) (.cons (.tup (.cons (.tup (.cons (.cst (.str s_press)) (.cons (.var 1) .nil))) (.cons (.cst (.int 3)) (.cons (.tup .nil) .nil)))) (.cons (.tup (.cons (.var 6) (.cons (.cst (.int 2)) (.cons (.tup .nil) .nil)))) .nil)))))))) (.cons (.ret (.call 22 (.cons (.var 5) (.cons (.bin .add (.var 7) (.lst (.cons (.tup (.cons (.var 6) (.cons (.cst (.int 1)) (.cons (.tup .nil) .nil)))) (.cons (.tup (.cons (.var 6) (.cons (.cst (.int 0)) (.cons (.tup .nil) .nil)))) (.cons (.tup (.cons (.var 6) (.cons (.cst (.int 0)) (.cons (.tup (.cons (.var 1) .nil)) .nil)))) (.cons (.tup (.cons (.var 6) (.cons (.cst (.int 0)) (.cons (.tup .nil) .nil)))) .nil)))))) .nil)))) .nil)) .nil) (.cons (.asg (.name 7) (.bin .add (.var 7) (.lst (.cons (.tup (.cons (.var 6) (.cons (.cst (.int 3)) (.cons (.tup .nil) .nil)))) (.cons (.tup (.cons (.var 6) (.cons (.cst (.int 3)) (.cons (.tup (.cons (.var 2) .nil)) .nil)))) (.cons (.tup (.cons (.tup (.cons (.cst (.str s_press)) (.cons (.var 1) .nil))) (.cons (.cst (.int 3)) (.cons (.tup .nil) .nil)))) (.cons (.tup (.cons (.var 6) (.cons (.cst (.int 2)) (.cons (.tup .nil) .nil)))) (.cons (.tup (.cons (.var 6) (.cons (.cst (.int 2)) (.cons (.tup (.cons (.var 4) .nil)) .nil)))) .nil)))))))) (.cons (.ret (.call 22 (.cons (.var 5) (.cons (.bin .add (.var 7) (.lst (.cons (.tup (.cons (.var 6) (.cons (.cst (.int 1)) (.cons (.tup .nil) .nil)))) (.cons (.tup (.cons (.var 6) (.cons (.cst (.int 0)) (.cons (.tup .nil) .nil)))) (.cons (.tup (.cons (.var 6) (.cons (.cst (.int 0)) (.cons (.tup (.cons (.var 1) .nil)) .nil)))) (.cons (.tup (.cons (.var 6) (.cons (.cst (.int 0)) (.cons (.tup .nil) .nil)))) (.cons (.tup (.cons (.var 6) (.cons (.cst (.int 0)) (.cons (.tup .nil) .nil)))) .nil))))))) .nil)))) .nil))))))))⟩
def fd_law_nearest_right : FD := ⟨"_law_nearest_right", ["_law_one", "_law_two", "_law_go", "_law_rule", "_law_rows"], 0, (.cons (.asg (.tup (.cons (.name 0) (.cons (.name 1) (.cons (.name 2) .nil)))) (.tup (.cons (.tup (.cons (.cst (.str s_in)) (.cons (.cst (.int 1)) .nil))) (.cons (.tup (.cons (.cst (.str s_in)) (.cons (.cst (.int 2)) .nil))) (.cons (.tup (.cons (.cst (.str s_step)) .nil)) .nil))))) (.cons (.asg (.name 3) (.tup (.cons (.cst (.int 3)) (.cons (.tup (.cons (.tup (.cons (.cst (.str s_in)) (.cons (.cst (.int 0)) .nil))) (.cons (.var 0) (.cons (.var 1) .nil)))) (.cons (.cst (.str s_nearest)) (.cons (.cst (.str s_all)) (.cons (.cst (.str s_home)) (.cons (.cst (.bool true)) (.cons (.cst (.bool false)) (.cons (.cst (.int 2)) .nil)))))))))) (.cons (.asg (.name 4) (.lst (.cons (.tup (.cons (.tup (.cons (.cst (.str s_press)) (.cons (.var 1) .nil))) (.cons (.cst (.int 0)) (.cons (.tup .nil) .nil)))) (.cons (.tup (.cons (.var 2) (.cons (.cst (.int 1)) (.cons (.tup .nil) .nil)))) (.cons (.tup (.cons (.var 2) (.cons (.cst (.int 2)) (.cons (.tup .nil) .nil)))) (.cons (.tup (.cons (.var 2) (.cons (.cst (.int 2)) (.cons (.tup (.cons (.var 1) .nil)) .nil)))) (.cons (.tup (.cons (.tup (.cons (.cst (.str s_press)) (.cons (.var 1) .nil))) (.cons (.cst (.int 2)) (.cons (.tup (.cons (.var 1) .nil)) .nil)))) .nil))))))) (.cons (.asg (.name 4) (.bin .add (.var 4) (.lst (.cons (.tup (.cons (.var 2) (.cons (.cst (.int 2)) (.cons (.tup .nil) .nil)))) (.cons (.tup (.cons (.tup (.cons (.cst (.str s_press)) (.cons (.var 1) .nil))) (.cons (.cst (.int 2)) (.cons (.tup (.cons (.var 1) .nil)) .nil)))) (.cons (.tup (.cons (.var 2) (.cons (.cst (.int 2)) (.cons (.tup .nil) .nil)))) (.cons (.tup (.cons (.var 2) (.cons (.cst (.int 2)) (.cons (.tup .nil) .nil)))) (.cons (.tup (.cons (.var 2) (.cons (.cst (.int 1)) (.cons (.tup .nil) .nil)))) .nil)))))))) (.cons (.asg (.name 4) (.bin .add (.var 4) (.lst (.cons (.tup (.cons (.tup (.cons (.cst (.str s_press)) (.cons (.var 0) .nil))) (.cons (.cst (.int 1)) (.cons (.tup .nil) .nil)))) (.cons (.tup (.cons (.tup (.cons (.cst (.str s_press)) (.cons (.var 0) .nil))) (.cons (.cst (.int 1)) (.cons (.tup .nil) .nil)))) (.cons (.tup (.cons (.var 2) (.cons (.cst (.int 1)) (.cons (.tup (.cons (.var 0) .nil)) .nil)))) (.cons (.tup (.cons (.tup (.cons (.cst (.str s_press)) (.cons (.var 1) .nil))) (.cons (.cst (.int 1)) (.cons (.tup .nil) .nil)))) .nil))))))) (.cons (.asg (.name 4) (.bin .add (.var 4) (.lst (.cons (.tup (.cons (.tup (.cons (.cst (.str s_press)) (.cons (.tup (.cons (.cst (.str s_in)) (.cons (.cst (.int 0)) .nil))) .nil))) (.cons (.cst (.int 1)) (.cons (.tup .nil) .nil)))) (.cons (.tup (.cons (.var 2) (.cons (.cst (.int 1)) (.cons (.tup .nil) .nil)))) (.cons (.tup (.cons (.var 2) (.cons (.cst (.int 1)) (.cons (.tup .nil) .nil)))) (.cons (.tup (.cons (.var 2) (.cons (.cst (.int 2)) (.cons (.tup .nil) .nil)))) (.cons (.tup (.cons (.var 2) (.cons (.cst (.int 2)) (.cons (.tup (.cons (.var 1) .nil)) .nil)))) (.cons (.tup (.cons (.var 2) (.cons (.cst (.int 2)) (.cons (.tup .nil) .nil)))) .nil))))))))) (.cons (.asg (.name 4) (.bin .add (.var 4) (.lst (.cons (.tup (.cons (.var 2) (.cons (.cst (.int 2)) (.cons (.tup .nil) .nil)))) (.cons (.tup (.cons (.var 2) (.cons (.cst (.int 1)) (.cons (.tup .nil) .nil)))) (.cons (.tup (.cons (.var 2) (.cons (.cst (.int 0)) (.cons (.tup .nil) .nil)))) (.cons (.tup (.cons (.var 2) (.cons (.cst (.int 0)) (.cons (.tup (.cons (.tup (.cons (.cst (.str s_in)) (.cons (.cst (.int 0)) .nil))) .nil)) .nil)))) (.cons (.tup (.cons (.var 2) (.cons (.cst (.int 0)) (.cons (.tup .nil) .nil)))) (.cons (.tup (.cons (.var 2) (.cons (.cst (.int 0)) (.cons (.tup .nil) .nil)))) .nil))))))))) (.cons (.ret (.call 22 (.cons (.var 3) (.cons (.var 4) .nil)))) .nil))))))))⟩
def fd_law_eldest_right : FD := ⟨"_law_eldest_right", ["_law_take", "_law_two", "_law_up", "_law_go", "_law_rule", "_law_rows"], 1, (.cons (.asg (.tup (.cons (.name 1) (.cons (.name 2) (.cons (.name 3) .nil)))) (.tup (.cons (.tup (.cons (.cst (.str s_in)) (.cons (.cst (.int 2)) .nil))) (.cons (.tup (.cons (.cst (.str s_up)) (.cons (.cst (.int 1)) .nil))) (.cons (.tup (.cons (.cst (.str s_step)) .nil)) .nil))))) (.cons (.asg (.name 4) (.tup (.cons (.cst (.int 3)) (.cons (.tup (.cons (.tup (.cons (.cst (.str s_down)) (.cons (.cst (.int 1)) .nil))) (.cons (.var 1) (.cons (.var 2) .nil)))) (.cons (.cst (.str s_eldest)) (.cons (.var 0) (.cons (.cst (.str s_stay)) (.cons (.cst (.bool false)) (.cons (.cst (.bool true)) (.cons (.cst (.int 1)) .nil)))))))))) (.cons (.asg (.name 5) (.lst (.cons (.tup (.cons (.tup (.cons (.cst (.str s_press)) (.cons (.var 1) .nil))) (.cons (.cst (.int 0)) (.cons (.tup .nil) .nil)))) (.cons (.tup (.cons (.tup (.cons (.cst (.str s_press)) (.cons (.var 2) .nil))) (.cons (.cst (.int 0)) (.cons (.tup .nil) .nil)))) (.cons (.tup (.cons (.var 3) (.cons (.cst (.int 1)) (.cons (.tup .nil) .nil)))) .nil))))) (.cons (.cond (.cmp .eq (.var 0) (.cst (.str s_end))) (.cons (.asg (.name 5) (.bin .add (.var 5) (.lst (.cons (.tup (.cons (.var 3) (.cons (.cst (.int 2)) (.cons (.tup .nil) .nil)))) (.cons (.tup (.cons (.var 3) (.cons (.cst (.int 2)) (.cons (.tup (.cons (.var 1) .nil)) .nil)))) (.cons (.tup (.cons (.tup (.cons (.cst (.str s_press)) (.cons (.var 1) .nil))) (.cons (.cst (.int 2)) (.cons (.tup (.cons (.var 1) .nil)) .nil)))) (.cons (.tup (.cons (.var 3) (.cons (.cst (.int 1)) (.cons (.tup .nil) .nil)))) (.cons (.tup (.cons (.var 3) (.cons (.cst (.int 1)) (.cons (.tup (.cons (.var 2) .nil)) .nil)))) .nil)))))))) (.cons (.ret (.call 22 (.cons (.var 4) (.cons (.bin .add (.var 5) (.lst (.cons (.tup (.cons (.var 3) (.cons (.cst (.int 1)) (.cons (.tup .nil) .nil)))) (.cons (.tup (.cons (.var 3) (.cons (.cst (.int 1)) (.cons (.tup .nil) .nil)))) .nil)))) .nil)))) .nil)) .nil) (.cons (.asg (.name 5) (.bin .add (.var 5) (.lst (.cons (.tup (.cons (.var 3) (.cons (.cst (.int 1)) (.cons (.tup (.cons (.var 2) .nil)) .nil)))) (.cons (.tup (.cons (.tup (.cons (.cst (.str s_press)) (.cons (.tup (.cons (.cst (.str s_down)) (.cons (.cst (.int 1)) .nil))) .nil))) (.cons (.cst (.int 1)) (.cons (.bin .mul (.tup (.cons (.tup (.cons (.cst (.str s_down)) (.cons (.cst (.int 1)) .nil))) .nil)) (.bf .int (.cons (.cmp .eq (.var 0) (.cst (.str s_all))) .nil))) .nil)))) (.cons (.tup (.cons (.var 3) (.cons (.cst (.int 2)) (.cons (.tup .nil) .nil)))) .nil)))))) (.cons (.asg (.name 5) (.bin .add (.var 5) (.lst (.cons (.tup (.cons (.var 3) (.cons (.cst (.int 2)) (.cons (.tup (.cons (.var 1) .nil)) .nil)))) (.cons (.tup (.cons (.var 3) (.cons (.bin .sub (.cst (.int 2)) (.bf .int (.cons (.cmp .eq (.var 0) (.cst (.str s_way))) .nil))) (.cons (.tup .nil) .nil)))) (.cons (.tup (.cons (.var 3) (.cons (.bin .sub (.cst (.int 2)) (.bf .int (.cons (.cmp .eq (.var 0) (.cst (.str s_way))) .nil))) (.cons (.tup .nil) .nil)))) .nil)))))) (.cons (.cond (.cmp .eq (.var 0) (.cst (.str s_all))) (.cons (.ret (.call 22 (.cons (.var 4) (.cons (.var 5) .nil)))) .nil) .nil) (.cons (.ret (.call 22 (.cons (.var 4) (.cons (.bin .add (.slc (.var 5) .none (.some (.neg (.cst (.int 1))))) (.lst (.cons (.tup (.cons (.var 3) (.cons (.cst (.int 1)) (.cons (.tup (.cons (.tup (.cons (.cst (.str s_down)) (.cons (.cst (.int 1)) .nil))) .nil)) .nil)))) (.cons (.tup (.cons (.var 3) (.cons (.cst (.int 1)) (.cons (.tup .nil) .nil)))) .nil)))) .nil)))) .nil))))))))⟩
def fd_law : FD := ⟨"law", ["_law_script", "_law_take"], 1, (.cons (.loop (.name 1) (.seq (.tup (.cons (.cst (.str s_all)) (.cons (.cst (.str s_way)) (.cons (.cst (.str s_end)) .nil))))) (.cons (.cond (.or (.nt (.call 23 (.cons (.var 1) .nil))) (.nt (.call 25 (.cons (.var 1) .nil)))) (.cons (.ret (.cst (.bool false))) .nil) .nil) .nil)) (.cons (.ret (.call 24 .nil)) .nil))⟩
def G : GI := ⟨[fd_is_whole, fd_is_word, fd_is_button, fd_are_rising, fd_are_buttons, fd_rule_fault, fd_need_rule, fd_is_of, fd_are_wants, fd_state_fault, fd_need_state, fd_free_by, fd_is_event_of, fd_towards, fd_nearest_floor, fd_heading_in, fd_told_by, fd_pressed, fd_closing, fd_stepped, fd_done, fd_step, fd_law_run_right, fd_law_sweep_right, fd_law_nearest_right, fd_law_eldest_right, fd_law], [("MOST_FLOORS", (.int 6)), ("MOST_BUTTONS", (.int 6)), ("MOST_OPEN", (.int 3)), ("IN", (.str s_in)), ("UP", (.str s_up)), ("DOWN", (.str s_down)), ("NONE", (.str s_none)), ("SWEEP", (.str s_sweep)), ("NEAREST", (.str s_nearest)), ("ELDEST", (.str s_eldest)), ("ALL", (.str s_all)), ("WAY", (.str s_way)), ("END", (.str s_end)), ("STAY", (.str s_stay)), ("HOME", (.str s_home)), ("PICKS", (.tuple [(.str s_sweep), (.str s_nearest), (.str s_eldest)])), ("TAKES", (.tuple [(.str s_all), (.str s_way), (.str s_end)])), ("RESTS", (.tuple [(.str s_stay), (.str s_home)])), ("HEADINGS", (.tuple [(.str s_up), (.str s_down), (.str s_none)])), ("PRESS", (.str s_press)), ("STEP", (.tuple [(.str s_step)]))], [("WAYS", tab_WAYS)]⟩
/-! the text as it stands -/
def top (i : Nat) : Stmt := PySem.Challenge.pw_liftcalls_k05_steps_by_hand.main.body.getD i (.Pass ⟨0, 0, 0, 0⟩)
abbrev st_is_whole : Stmt := top 24
def di_is_whole : DefIn := ⟨fd_is_whole, ⟨("is_whole", none), "is_whole", "is_whole", defArgs st_is_whole, defBody st_is_whole, defScope st_is_whole, [], []⟩, ["thing", "least", "most"]⟩
theorem ok_is_whole : di_is_whole.Ok G := ⟨rfl, rfl, rfl, rfl, ⟨rfl, rfl, rfl, by decide +kernel, rfl, by decide +kernel, by decide +kernel⟩, rfl, by decide +kernel, fun _ _ _ _ _ _ us hl => match us, hl with | [_, _, _], _ => rfl⟩
abbrev st_is_word : Stmt := top 25
def di_is_word : DefIn := ⟨fd_is_word, ⟨("is_word", none), "is_word", "is_word", defArgs st_is_word, defBody st_is_word, defScope st_is_word, [], []⟩, ["thing", "words"]⟩
theorem ok_is_word : di_is_word.Ok G := ⟨rfl, rfl, rfl, rfl, ⟨rfl, rfl, rfl, by decide +kernel, rfl, by decide +kernel, by decide +kernel⟩, rfl, by decide +kernel, fun _ _ _ _ _ _ us hl => match us, hl with | [_, _], _ => rfl⟩
abbrev st_is_button : Stmt := top 26
def di_is_button : DefIn := ⟨fd_is_button, ⟨("is_button", none), "is_button", "is_button", defArgs st_is_button, defBody st_is_button, defScope st_is_button, [], []⟩, ["floors", "thing"]⟩
theorem ok_is_button : di_is_button.Ok G := ⟨rfl, rfl, rfl, rfl, ⟨rfl, rfl, rfl, by decide +kernel, rfl, by decide +kernel, by decide +kernel⟩, rfl, by decide +kernel, fun _ _ _ _ _ _ us hl => match us, hl with | [_, _], _ => rfl⟩
abbrev st_are_rising : Stmt := top 27
def di_are_rising : DefIn := ⟨fd_are_rising, ⟨("are_rising", none), "are_rising", "are_rising", defArgs st_are_rising, defBody st_are_rising, defScope st_are_rising, [], []⟩, ["things"]⟩
theorem ok_are_rising : di_are_rising.Ok G := ⟨rfl, rfl, rfl, rfl, ⟨rfl, rfl, rfl, by decide +kernel, rfl, by decide +kernel, by decide +kernel⟩, rfl, by decide +kernel, fun _ _ _ _ _ _ us hl => match us, hl with | [_], _ => rfl⟩
abbrev st_are_buttons : Stmt := top 28
def di_are_buttons : DefIn := ⟨fd_are_buttons, ⟨("are_buttons", none), "are_buttons", "are_buttons", defArgs st_are_buttons, defBody st_are_buttons, defScope st_are_buttons, [], []⟩, ["floors", "thing"]⟩
theorem ok_are_buttons : di_are_buttons.Ok G := ⟨rfl, rfl, rfl, rfl, ⟨rfl, rfl, rfl, by decide +kernel, rfl, by decide +kernel, by decide +kernel⟩, rfl, by decide +kernel, fun _ _ _ _ _ _ us hl => match us, hl with | [_, _], _ => rfl⟩
abbrev st_rule_fault : Stmt := top 29
def di_rule_fault : DefIn := ⟨fd_rule_fault, ⟨("rule_fault", none), "rule_fault", "rule_fault", defArgs st_rule_fault, defBody st_rule_fault, defScope st_rule_fault, [], []⟩, ["thing"]⟩
theorem ok_rule_fault : di_rule_fault.Ok G := ⟨rfl, rfl, rfl, rfl, ⟨rfl, rfl, rfl, by decide +kernel, rfl, by decide +kernel, by decide +kernel⟩, rfl, by decide +kernel, fun _ _ _ _ _ _ us hl => match us, hl with | [_], _ => rfl⟩
abbrev st_need_rule : Stmt := top 30
def di_need_rule : DefIn := ⟨fd_need_rule, ⟨("need_rule", none), "need_rule", "need_rule", defArgs st_need_rule, defBody st_need_rule, defScope st_need_rule, [], []⟩, ["thing"]⟩
theorem ok_need_rule : di_need_rule.Ok G := ⟨rfl, rfl, rfl, rfl, ⟨rfl, rfl, rfl, by decide +kernel, rfl, by decide +kernel, by decide +kernel⟩, rfl, by decide +kernel, fun _ _ _ _ _ _ us hl => match us, hl with | [_], _ => rfl⟩
abbrev st_is_of : Stmt := top 33
def di_is_of : DefIn := ⟨fd_is_of, ⟨("is_of", none), "is_of", "is_of", defArgs st_is_of, defBody st_is_of, defScope st_is_of, [], []⟩, ["rule", "thing"]⟩
theorem ok_is_of : di_is_of.Ok G := ⟨rfl, rfl, rfl, rfl, ⟨rfl, rfl, rfl, by decide +kernel, rfl, by decide +kernel, by decide +kernel⟩, rfl, by decide +kernel, fun _ _ _ _ _ _ us hl => match us, hl with | [_, _], _ => rfl⟩
abbrev st_are_wants : Stmt := top 34
def di_are_wants : DefIn := ⟨fd_are_wants, ⟨("are_wants", none), "are_wants", "are_wants", defArgs st_are_wants, defBody st_are_wants, defScope st_are_wants, [], []⟩, ["rule", "thing"]⟩
theorem ok_are_wants : di_are_wants.Ok G := ⟨rfl, rfl, rfl, rfl, ⟨rfl, rfl, rfl, by decide +kernel, rfl, by decide +kernel, by decide +kernel⟩, rfl, by decide +kernel, fun _ _ _ _ _ _ us hl => match us, hl with | [_, _], _ => rfl⟩
abbrev st_state_fault : Stmt := top 35
def di_state_fault : DefIn := ⟨fd_state_fault, ⟨("state_fault", none), "state_fault", "state_fault", defArgs st_state_fault, defBody st_state_fault, defScope st_state_fault, [], []⟩, ["rule", "thing"]⟩
theorem ok_state_fault : di_state_fault.Ok G := ⟨rfl, rfl, rfl, rfl, ⟨rfl, rfl, rfl, by decide +kernel, rfl, by decide +kernel, by decide +kernel⟩, rfl, by decide +kernel, fun _ _ _ _ _ _ us hl => match us, hl with | [_, _], _ => rfl⟩
abbrev st_need_state : Stmt := top 36
def di_need_state : DefIn := ⟨fd_need_state, ⟨("need_state", none), "need_state", "need_state", defArgs st_need_state, defBody st_need_state, defScope st_need_state, [], []⟩, ["rule", "thing"]⟩
theorem ok_need_state : di_need_state.Ok G := ⟨rfl, rfl, rfl, rfl, ⟨rfl, rfl, rfl, by decide +kernel, rfl, by decide +kernel, by decide +kernel⟩, rfl, by decide +kernel, fun _ _ _ _ _ _ us hl => match us, hl with | [_, _], _ => rfl⟩
abbrev st_free_by : Stmt := top 37
def di_free_by : DefIn := ⟨fd_free_by, ⟨("free_by", none), "free_by", "free_by", defArgs st_free_by, defBody st_free_by, defScope st_free_by, [], []⟩, ["rule", "old", "new", "button"]⟩
theorem ok_free_by : di_free_by.Ok G := ⟨rfl, rfl, rfl, rfl, ⟨rfl, rfl, rfl, by decide +kernel, rfl, by decide +kernel, by decide +kernel⟩, rfl, by decide +kernel, fun _ _ _ _ _ _ us hl => match us, hl with | [_, _, _, _], _ => rfl⟩
abbrev st_is_event_of : Stmt := top 42
def di_is_event_of : DefIn := ⟨fd_is_event_of, ⟨("is_event_of", none), "is_event_of", "is_event_of", defArgs st_is_event_of, defBody st_is_event_of, defScope st_is_event_of, [], []⟩, ["rule", "thing"]⟩
theorem ok_is_event_of : di_is_event_of.Ok G := ⟨rfl, rfl, rfl, rfl, ⟨rfl, rfl, rfl, by decide +kernel, rfl, by decide +kernel, by decide +kernel⟩, rfl, by decide +kernel, fun _ _ _ _ _ _ us hl => match us, hl with | [_, _], _ => rfl⟩
abbrev st_towards : Stmt := top 43
def di_towards : DefIn := ⟨fd_towards, ⟨("towards", none), "towards", "towards", defArgs st_towards, defBody st_towards, defScope st_towards, [], []⟩, ["floor", "goal"]⟩
theorem ok_towards : di_towards.Ok G := ⟨rfl, rfl, rfl, rfl, ⟨rfl, rfl, rfl, by decide +kernel, rfl, by decide +kernel, by decide +kernel⟩, rfl, by decide +kernel, fun _ _ _ _ _ _ us hl => match us, hl with | [_, _], _ => rfl⟩
abbrev st_nearest_floor : Stmt := top 44
def di_nearest_floor : DefIn := ⟨fd_nearest_floor, ⟨("nearest_floor", none), "nearest_floor", "nearest_floor", defArgs st_nearest_floor, defBody st_nearest_floor, defScope st_nearest_floor, [], []⟩, ["state"]⟩
theorem ok_nearest_floor : di_nearest_floor.Ok G := ⟨rfl, rfl, rfl, rfl, ⟨rfl, rfl, rfl, by decide +kernel, rfl, by decide +kernel, by decide +kernel⟩, rfl, by decide +kernel, fun _ _ _ _ _ _ us hl => match us, hl with | [_], _ => rfl⟩
abbrev st_heading_in : Stmt := top 45
def di_heading_in : DefIn := ⟨fd_heading_in, ⟨("heading_in", none), "heading_in", "heading_in", defArgs st_heading_in, defBody st_heading_in, defScope st_heading_in, [], []⟩, ["rule", "state"]⟩
theorem ok_heading_in : di_heading_in.Ok G := ⟨rfl, rfl, rfl, rfl, ⟨rfl, rfl, rfl, by decide +kernel, rfl, by decide +kernel, by decide +kernel⟩, rfl, by decide +kernel, fun _ _ _ _ _ _ us hl => match us, hl with | [_, _], _ => rfl⟩
abbrev st_told_by : Stmt := top 46
def di_told_by : DefIn := ⟨fd_told_by, ⟨("told_by", none), "told_by", "told_by", defArgs st_told_by, defBody st_told_by, defScope st_told_by, [], []⟩, ["state", "served"]⟩
theorem ok_told_by : di_told_by.Ok G := ⟨rfl, rfl, rfl, rfl, ⟨rfl, rfl, rfl, by decide +kernel, rfl, by decide +kernel, by decide +kernel⟩, rfl, by decide +kernel, fun _ _ _ _ _ _ us hl => match us, hl with | [_, _], _ => rfl⟩
abbrev st_pressed : Stmt := top 47
def di_pressed : DefIn := ⟨fd_pressed, ⟨("pressed", none), "pressed", "pressed", defArgs st_pressed, defBody st_pressed, defScope st_pressed, [], []⟩, ["rule", "state", "button"]⟩
theorem ok_pressed : di_pressed.Ok G := ⟨rfl, rfl, rfl, rfl, ⟨rfl, rfl, rfl, by decide +kernel, rfl, by decide +kernel, by decide +kernel⟩, rfl, by decide +kernel, fun _ _ _ _ _ _ us hl => match us, hl with | [_, _, _], _ => rfl⟩
abbrev st_closing : Stmt := top 48
def di_closing : DefIn := ⟨fd_closing, ⟨("closing", none), "closing", "closing", defArgs st_closing, defBody st_closing, defScope st_closing, [], []⟩, ["rule", "state"]⟩
theorem ok_closing : di_closing.Ok G := ⟨rfl, rfl, rfl, rfl, ⟨rfl, rfl, rfl, by decide +kernel, rfl, by decide +kernel, by decide +kernel⟩, rfl, by decide +kernel, fun _ _ _ _ _ _ us hl => match us, hl with | [_, _], _ => rfl⟩
abbrev st_stepped : Stmt := top 49
def di_stepped : DefIn := ⟨fd_stepped, ⟨("stepped", none), "stepped", "stepped", defArgs st_stepped, defBody st_stepped, defScope st_stepped, [], []⟩, ["rule", "state"]⟩
theorem ok_stepped : di_stepped.Ok G := ⟨rfl, rfl, rfl, rfl, ⟨rfl, rfl, rfl, by decide +kernel, rfl, by decide +kernel, by decide +kernel⟩, rfl, by decide +kernel, fun _ _ _ _ _ _ us hl => match us, hl with | [_, _], _ => rfl⟩
abbrev st_done : Stmt := top 50
def di_done : DefIn := ⟨fd_done, ⟨("done", none), "done", "done", defArgs st_done, defBody st_done, defScope st_done, [], []⟩, ["rule", "state", "event"]⟩
theorem ok_done : di_done.Ok G := ⟨rfl, rfl, rfl, rfl, ⟨rfl, rfl, rfl, by decide +kernel, rfl, by decide +kernel, by decide +kernel⟩, rfl, by decide +kernel, fun _ _ _ _ _ _ us hl => match us, hl with | [_, _, _], _ => rfl⟩
abbrev st_step : Stmt := top 51
def di_step : DefIn := ⟨fd_step, ⟨("step", none), "step", "step", defArgs st_step, defBody st_step, defScope st_step, [], []⟩, ["rule", "state", "event"]⟩
theorem ok_step : di_step.Ok G := ⟨rfl, rfl, rfl, rfl, ⟨rfl, rfl, rfl, by decide +kernel, rfl, by decide +kernel, by decide +kernel⟩, rfl, by decide +kernel, fun _ _ _ _ _ _ us hl => match us, hl with | [_, _, _], _ => rfl⟩
abbrev st_law_run_right : Stmt := top 53
def di_law_run_right : DefIn := ⟨fd_law_run_right, ⟨("_law_run_right", none), "_law_run_right", "_law_run_right", defArgs st_law_run_right, defBody st_law_run_right, defScope st_law_run_right, [], []⟩, ["_law_rule", "_law_rows"]⟩
theorem ok_law_run_right : di_law_run_right.Ok G := ⟨rfl, rfl, rfl, rfl, ⟨rfl, rfl, rfl, by decide +kernel, rfl, by decide +kernel, by decide +kernel⟩, rfl, by decide +kernel, fun _ _ _ _ _ _ us hl => match us, hl with | [_, _], _ => rfl⟩
abbrev st_law_sweep_right : Stmt := top 54
def di_law_sweep_right : DefIn := ⟨fd_law_sweep_right, ⟨("_law_sweep_right", none), "_law_sweep_right", "_law_sweep_right", defArgs st_law_sweep_right, defBody st_law_sweep_right, defScope st_law_sweep_right, [], []⟩, ["_law_take"]⟩
theorem ok_law_sweep_right : di_law_sweep_right.Ok G := ⟨rfl, rfl, rfl, rfl, ⟨rfl, rfl, rfl, by decide +kernel, rfl, by decide +kernel, by decide +kernel⟩, rfl, by decide +kernel, fun _ _ _ _ _ _ us hl => match us, hl with | [_], _ => rfl⟩
abbrev st_law_nearest_right : Stmt := top 55
def di_law_nearest_right : DefIn := ⟨fd_law_nearest_right, ⟨("_law_nearest_right", none), "_law_nearest_right", "_law_nearest_right", defArgs st_law_nearest_right, defBody st_law_nearest_right, defScope st_law_nearest_right, [], []⟩, []⟩
theorem ok_law_nearest_right : di_law_nearest_right.Ok G := ⟨rfl, rfl, rfl, rfl, ⟨rfl, rfl, rfl, by decide +kernel, rfl, by decide +kernel, by decide +kernel⟩, rfl, by decide +kernel, fun _ _ _ _ _ _ us hl => match us, hl with | [], _ => rfl⟩
abbrev st_law_eldest_right : Stmt := top 56
def di_law_eldest_right : DefIn := ⟨fd_law_eldest_right, ⟨("_law_eldest_right", none), "_law_eldest_right", "_law_eldest_right", defArgs st_law_eldest_right, defBody st_law_eldest_right, defScope st_law_eldest_right, [], []⟩, ["_law_take"]⟩
theorem ok_law_eldest_right : di_law_eldest_right.Ok G := ⟨rfl, rfl, rfl, rfl, ⟨rfl, rfl, rfl, by decide +kernel, rfl, by decide +kernel, by decide +kernel⟩, rfl, by decide +kernel, fun _ _ _ _ _ _ us hl => match us, hl with | [_], _ => rfl⟩
abbrev st_law : Stmt := top 57
def di_law : DefIn := ⟨fd_law, ⟨("law", none), "law", "law", defArgs st_law, defBody st_law, defScope st_law, [], []⟩, ["_law_script"]⟩
theorem ok_law : di_law.Ok G := ⟨rfl, rfl, rfl, rfl, ⟨rfl, rfl, rfl, by decide +kernel, rfl, by decide +kernel, by decide +kernel⟩, rfl, by decide +kernel, fun _ _ _ _ _ _ us hl => match us, hl with | [_], _ => rfl⟩
def defs : List DefIn := [di_is_whole, di_is_word, di_is_button, di_are_rising, di_are_buttons, di_rule_fault, di_need_rule, di_is_of, di_are_wants, di_state_fault, di_need_state, di_free_by, di_is_event_of, di_towards, di_nearest_floor, di_heading_in, di_told_by, di_pressed, di_closing, di_stepped, di_done, di_step, di_law_run_right, di_law_sweep_right, di_law_nearest_right, di_law_eldest_right, di_law]
theorem oks : ∀ x ∈ defs, x.Ok G := by
  intro x hx
  simp only [defs, List.mem_cons, List.not_mem_nil, or_false] at hx
  rcases hx with rfl | rfl | rfl | rfl | rfl | rfl | rfl | rfl | rfl | rfl | rfl | rfl | rfl | rfl | rfl | rfl | rfl | rfl | rfl | rfl | rfl | rfl | rfl | rfl | rfl | rfl | rfl
  · exact ok_is_whole
  · exact ok_is_word
  · exact ok_is_button
  · exact ok_are_rising
  · exact ok_are_buttons
  · exact ok_rule_fault
  · exact ok_need_rule
  · exact ok_is_of
  · exact ok_are_wants
  · exact ok_state_fault
  · exact ok_need_state
  · exact ok_free_by
  · exact ok_is_event_of
  · exact ok_towards
  · exact ok_nearest_floor
  · exact ok_heading_in
  · exact ok_told_by
  · exact ok_pressed
  · exact ok_closing
  · exact ok_stepped
  · exact ok_done
  · exact ok_step
  · exact ok_law_run_right
  · exact ok_law_sweep_right
  · exact ok_law_nearest_right
  · exact ok_law_eldest_right
  · exact ok_law
/-! the head -/
def loose0 : List Str := ["MOST_FLOORS", "MOST_BUTTONS", "MOST_OPEN", "IN", "UP", "DOWN", "NONE", "SWEEP", "NEAREST", "ELDEST", "ALL", "WAY"]
def loose1 : List Str := ["END", "STAY", "HOME", "PICKS", "TAKES", "RESTS", "HEADINGS", "PRESS", "STEP", "WAYS", "LiftError", "BadRule"]
def loose2 : List Str := ["BadState", "BadEvent", "is_whole", "is_word", "is_button", "are_rising", "are_buttons", "rule_fault", "need_rule", "is_of", "are_wants", "state_fault"]
def loose3 : List Str := ["need_state", "free_by", "is_event_of", "towards", "nearest_floor", "heading_in", "told_by", "pressed", "closing", "stepped", "done", "step"]
def loose4 : List Str := ["_law_run_right", "_law_sweep_right", "_law_nearest_right", "_law_eldest_right"]
def loose : List Str := loose0 ++ loose1 ++ loose2 ++ loose3 ++ loose4
abbrev R : PySem.W.OpenRow := PySem.W.OpenLaw.row PySem.Challenge.rw_liftcalls_k05_steps_by_hand
abbrev hk : PySem.W.Hook := He.hookX 4 (faOf defs G) (defs.map (·.d)) (tsOf G) [] (exOf G)
def ob (s : PySem.W.SharedT) : He.AlX := He.obsX 4 (faOf defs G) (defs.map (·.d)) (tsOf G) [] (exOf G) (HandSHeadRun.getT s)
theorem ob_eq (s : PySem.W.SharedT) : ob s = hk.obs s.abs := He.obsX_eq (HandSHeadRun.getT_eq s)
theorem runT (w : World) : HandSHeadRun.RunEq R (PySem.W.view R.prog [57]) hk ob 30000 loose (setRow w true) := by intro os; kernel_rfl
theorem runF (w : World) : HandSHeadRun.RunEq R (PySem.W.view R.prog [57]) hk ob 30000 loose (setRow w false) := by intro os; kernel_rfl
theorem run (w : World) : HandSHeadRun.RunEq R (PySem.W.view R.prog [57]) hk ob 30000 loose w := by_row (P := fun w => HandSHeadRun.RunEq R (PySem.W.view R.prog [57]) hk ob 30000 loose w) (fun w b => match b with | true => runT w | false => runF w) w
theorem law_true : ∀ ns : List Int, ns.length ≤ 63 → ∃ S', evF G.fns 40 26 [.scr ns] [] = .ok (dB true) S' := fun ns _ => true_of (by kernel_rfl)

end L2.LC.liftcalls_k05_steps_by_hand
open PySem PySem.W PySem.Calls PyProof.Rows
theorem PySem.Challenge.cw_liftcalls_k05_steps_by_hand_holds : PySem.Challenge.rw_liftcalls_k05_steps_by_hand.Holds := by
  w_on; o_law
  refine HandSHeadRun.head_any (r := OpenLaw.row PySem.Challenge.rw_liftcalls_k05_steps_by_hand) (q := view (OpenLaw.row PySem.Challenge.rw_liftcalls_k05_steps_by_hand).prog [57]) (H := L2.LC.liftcalls_k05_steps_by_hand.hk) (ob := L2.LC.liftcalls_k05_steps_by_hand.ob) (M := 30000) (loose := L2.LC.liftcalls_k05_steps_by_hand.loose) (d := HandSHeadRun.topDef (OpenLaw.row PySem.Challenge.rw_liftcalls_k05_steps_by_hand).prog 57) (kwd := []) L2.LC.liftcalls_k05_steps_by_hand.ob_eq
    (by kernel_rfl) (fun s => by kernel_rfl) L2.LC.liftcalls_k05_steps_by_hand.run (by kernel_rfl) (by kernel_rfl) (by kernel_rfl) (by rfl) (by first | assumption | decide +kernel) (by decide +kernel) ⟨rfl, rfl, rfl, rfl, rfl, by decide +kernel⟩ ?hw ?hc
  case hw => w_witness2
  case hc =>
    refine L2.LC.walk_G (l := PySem.Challenge.rw_liftcalls_k05_steps_by_hand) (n := 63) (k := 40) (x := "_law_script") rfl (by decide) (by kernel_rfl) ⟨rfl, by decide, by decide⟩ ?F
    intro w mg fa h Y G hmg0
    obtain ⟨K, KX, c⟩ := Y
    have hmg : mg ("law" : PySem.Str) = some (.ref fa) := by
      have e : (HandSHeadRun.topDef (OpenLaw.row PySem.Challenge.rw_liftcalls_k05_steps_by_hand).prog 57).name = ("law" : PySem.Str) := by kernel_rfl
      rw [← e]
      exact hmg0
    exact L2.LC.law_fin (prog := (PySem.Challenge.rw_liftcalls_k05_steps_by_hand).prog) (G := L2.LC.liftcalls_k05_steps_by_hand.G) (defs := L2.LC.liftcalls_k05_steps_by_hand.defs) (f := 26) (x := L2.LC.liftcalls_k05_steps_by_hand.di_law) (p := "_law_script") rfl L2.LC.liftcalls_k05_steps_by_hand.oks KX G c rfl rfl hmg (by decide) L2.LC.liftcalls_k05_steps_by_hand.law_true

