import PyProof.Rows.All
import Wide.All
import OpenK.AllK
import Wide.FinOn
import HandS.Base
import HandS.Call
import HandS.List
import HandS.Comp
import HandS.Ends
import HandS.Dict
import HandS.Iter
import HandS.Zip
import HandS.Text
import HandS.Words
import HandS.Exc
import HandS.WordsExc
import HandS.Defaults
import HandS.TupAny
import HandS.TupMul
import HandS.Style
import HandS.TupLe
import HandS.Conv
import KE.KeyNested
import KE.KDictKeyed
import PyProof.DictRoadsH
import PyProof.ReprRoads
import KE.DataEq
import KE.DataCmp
import KE.DataIsa
import KE.DataAny
import KE.DataMinMax
import KE.SortData
import HandS.Lambda
import HandS.HeadHook4
import KE.GoesMore
import HandS.More
import KE.KDictDisplayH
import KE.KLam
import KE.KExcIs
import HandS.ExcField
import HandS.ExcInit
import HandS.ExcOwn
import KE.KTryMore
import KE.KStateDown
import HandS.Head0
import HandS.Head1
import HandS.Head2
import HandS.HeadEnd
import HandS.HeadHook1
import HandS.HeadHook2
import HandS.HeadHook3
import PySem.Challenge.RW_liftcalls_k11_whole_journeys
set_option Elab.async false
set_option linter.all false
set_option maxRecDepth 100000
set_option maxHeartbeats 4000000
/-! LC: a small core language, its values, its evaluator. -/
namespace L2.LC
open PySem

/-- an error: its class' name, its field -/
structure Xn where
  cls : Str
  fld : PyData
/-- the errors: the class' name, the word that the laws give it, its field's name -/
structure ErrRow where
  cls : Str
  word : Str
  fld : Option Str
def errRows : List ErrRow := [⟨"BadRule", "rule", some "place"⟩, ⟨"BadState", "state", some "place"⟩, ⟨"BadPlay", "play", some "place"⟩, ⟨"BadPaper", "paper", some "place"⟩, ⟨"BadLog", "log", some "place"⟩, ⟨"BadText", "text", some "place"⟩] ++
  [⟨"BadEvent", "event", some "event"⟩, ⟨"BadButton", "button", some "button"⟩, ⟨"BadMeasure", "measure", some "measure"⟩, ⟨"TooMany", "most", some "most"⟩, ⟨"Missing", "missing", some "number"⟩, ⟨"BadQuestion", "question", none⟩]
def errRow (c : Str) : Option ErrRow := errRows.find? fun r => decide (r.cls = c)

/-- a value: data by value, or a place of the store -/
inductive D where
  | dat (p : PyData)
  | ref (n : Nat)
  /-- the law's script -/
  | scr (ns : List Int)
  /-- a dict with tuples as keys that nobody changes -/
  | dct (kvs : List (PyData × PyData))
  /-- an error that was caught -/
  | exv (x : Xn)
  deriving Inhabited

/-- what stands at a place of the store -/
inductive Ob where
  | lst (xs : List D)
  /-- keys are texts -/
  | dic (kvs : List (Str × D))
  /-- keys are tuples -/
  | tab (kvs : List (PyData × D))
  | gone
abbrev Hs := List Ob
abbrev En := List (Option D)

inductive R (α : Type) where
  | ok (a : α) (h : Hs)
  | ex (x : Xn) (h : Hs)
  | no
def R.bind {α β : Type} (r : R α) (f : α → Hs → R β) : R β :=
  match r with
  | .ok a h => f a h
  | .ex x h => .ex x h
  | .no => .no
@[simp] theorem R.bind_ok {α β : Type} (a : α) (h : Hs) (f : α → Hs → R β) : (R.ok a h).bind f = f a h := rfl
@[simp] theorem R.bind_no {α β : Type} (f : α → Hs → R β) : (R.no : R α).bind f = R.no := rfl
@[simp] theorem R.bind_ex {α β : Type} (x : Xn) (h : Hs) (f : α → Hs → R β) : (R.ex x h : R α).bind f = R.ex x h := rfl
theorem R.bind_assoc {α β γ : Type} (r : R α) (f : α → Hs → R β) (g : β → Hs → R γ) : (r.bind f).bind g = r.bind fun a h => (f a h).bind g := by cases r <;> rfl
/-- an error here is not followed -/
def R.noX {α : Type} : R α → R α
  | .ex _ _ => .no
  | r => r
@[simp] theorem R.noX_ok {α : Type} (a : α) (h : Hs) : (R.ok a h).noX = R.ok a h := rfl
@[simp] theorem R.noX_no {α : Type} : (R.no : R α).noX = R.no := rfl
def R.of {α : Type} (o : Option α) (h : Hs) : R α := match o with | some a => .ok a h | none => .no
@[simp] theorem R.of_some {α : Type} (a : α) (h : Hs) : R.of (some a) h = R.ok a h := rfl
@[simp] theorem R.of_none {α : Type} (h : Hs) : R.of (none : Option α) h = R.no := rfl

abbrev dB (b : Bool) : D := .dat (.bool b)
abbrev dI (i : Int) : D := .dat (.int i)
abbrev dN : D := .dat .none
abbrev dT (xs : List PyData) : D := .dat (.tuple xs)
abbrev dL (xs : List PyData) : D := .dat (.list xs)

/-- all of them are data -/
def dats : List D → Option (List PyData)
  | [] => some []
  | .dat p :: r => (dats r).map (p :: ·)
  | .ref _ :: _ => none
  | .scr _ :: _ => none
  | .dct _ :: _ => none
  | .exv _ :: _ => none
/-- read as data: a list of the store by its items -/
def rd (h : Hs) : D → Option PyData
  | .dat p => some p
  | .scr ns => some (.list (ns.map .int))
  | .ref n => match h[n]? with
    | some (.lst xs) => (dats xs).map .list
    | _ => none
  | .dct _ => none
  | .exv _ => none

mutual
def peq : PyData → PyData → Bool
  | .none, .none => true
  | .bool a, .bool b => a == b
  | .int a, .int b => a == b
  | .str a, .str b => decide (a = b)
  | .list a, .list b => peqs a b
  | .tuple a, .tuple b => peqs a b
  | _, _ => false
def peqs : List PyData → List PyData → Bool
  | [], [] => true
  | a :: as, b :: bs => peq a b && peqs as bs
  | _, _ => false
end
mutual
theorem peq_ok : ∀ {a b : PyData}, peq a b = true → a = b
  | .none, b, h => by cases b <;> simp [peq] at h; rfl
  | .bool a, b, h => by cases b <;> simp [peq] at h; rw [h]
  | .int a, b, h => by cases b <;> simp [peq] at h; rw [h]
  | .str a, b, h => by cases b <;> simp [peq] at h; rw [h]
  | .list a, b, h => by cases b <;> simp [peq] at h; rw [peqs_ok h]
  | .tuple a, b, h => by cases b <;> simp [peq] at h; rw [peqs_ok h]
  | .dict a, b, h => by cases b <;> simp [peq] at h
theorem peqs_ok : ∀ {a b : List PyData}, peqs a b = true → a = b
  | [], b, h => by cases b <;> simp [peqs] at h; rfl
  | x :: xs, b, h => by
    cases b with
    | nil => simp [peqs] at h
    | cons y ys =>
      simp only [peqs, Bool.and_eq_true] at h
      rw [peq_ok h.1, peqs_ok h.2]
end
mutual
/-- data as a key: whole numbers, texts, None, tuples of such -/
def nk : PyData → NestedKey
  | .none => .none
  | .int i => .num i
  | .str x => .text x
  | .tuple xs => .tup (nks xs)
  | _ => .none
def nks : List PyData → List NestedKey
  | [] => []
  | x :: xs => nk x :: nks xs
end
mutual
def nkOk : PyData → Bool
  | .none => true
  | .int _ => true
  | .str _ => true
  | .tuple xs => nksOk xs
  | _ => false
def nksOk : List PyData → Bool
  | [] => true
  | x :: xs => nkOk x && nksOk xs
end
def keyOk : PyData → Bool
  | .tuple xs => nksOk xs && decide (PyData.depth (.tuple xs) ≤ 8)
  | _ => false
def tabGet {δ : Type} : List (PyData × δ) → PyData → Option δ
  | [], _ => none
  | (q, d) :: r, p => if peq q p then some d else tabGet r p
def tabPut {δ : Type} (kvs : List (PyData × δ)) (p : PyData) (d : δ) : List (PyData × δ) :=
  if (tabGet kvs p).isSome then kvs.map (fun q => if peq q.1 p then (q.1, d) else q) else kvs ++ [(p, d)]
def dicPut (kvs : List (Str × D)) (x : Str) (d : D) : List (Str × D) :=
  if (kvs.lookup x).isSome then kvs.map (fun q => if q.1 = x then (q.1, d) else q) else kvs ++ [(x, d)]
inductive BOp where | add | sub | mul | fdiv | mod | pow
  deriving DecidableEq
inductive COp where | eq | ne | lt | le | gt | ge | isN | notN | isin | notin
  deriving DecidableEq
inductive Ty where | int | bool | str | tuple
  deriving DecidableEq
inductive BF where
  | len | int | all | any | sorted | tuple | list | min1 | max1 | min2 | max2 | abs | repr
  deriving DecidableEq

mutual
inductive CE where
  | var (i : Nat)
  | cst (d : PyData)
  | tup (es : CEs)
  | lst (es : CEs)
  | mk (es : CEs)
  | bin (o : BOp) (a b : CE)
  | neg (a : CE)
  | nt (a : CE)
  | and (a b : CE)
  | or (a b : CE)
  | cmp (o : COp) (a b : CE)
  | chn (o o' : COp) (a b c : CE)
  | ite (c a b : CE)
  | call (f : Nat) (es : CEs)
  | bf (b : BF) (es : CEs)
  | isi (t : Ty) (a : CE)
  | idx (a i : CE)
  | slc (a : CE) (lo hi : CO)
  | comp (e : CE) (t : Tg) (own : List Nat) (it : IT) (c : CO)
  | tab (x : Str) (t : List (Str × PyData)) (a : CE)
  | frz (a : CE)
  /-- {"x": e, ..} -/
  | dsp (ks : List Str) (es : CEs)
  /-- {}, {k: v} with tuples as keys -/
  | tb0
  | tb1 (k v : CE)
  /-- a[::-1] -/
  | rev (a : CE)
  /-- l.pop(), l.pop(i) -/
  | pop0 (l : CE)
  | pop1 (l i : CE)
  /-- sorted(..), list(..) that is changed later -/
  | bfm (b : BF) (es : CEs)
  /-- list(range(a)) -/
  | lrg (a : CE)
  /-- list(d), d a dict -/
  | lsd (a : CE)
  /-- _law_said(lambda: a) -/
  | said (a : CE)
  /-- isinstance(a, C), C an error's class; a.f, a an error -/
  | isx (c : Str) (a : CE)
  | fld (f : Str) (a : CE)
inductive CEs where
  | nil
  | cons (e : CE) (es : CEs)
inductive CO where
  | none
  | some (e : CE)
inductive IT where
  | seq (a : CE)
  | rng1 (a : CE)
  | rng2 (a b : CE)
  | enum (a : CE)
  | zip (a b : CE)
inductive Tg where
  | name (i : Nat)
  | tup (ts : Tgs)
inductive Tgs where
  | nil
  | cons (t : Tg) (ts : Tgs)
end
mutual
inductive CS where
  | asg (t : Tg) (e : CE)
  | par (i j : Nat) (a b : CE)
  | par3 (i j l : Nat) (a b c : CE)
  | app (l e : CE)
  /-- l.extend(e) -/
  | ext (l e : CE)
  /-- d[k] = v -/
  | put (d k v : CE)
  | ret (e : CE)
  | cond (c : CE) (a b : CSs)
  | loop (t : Tg) (it : IT) (b : CSs)
  | whl (c : CE) (b : CSs)
  | drop (e : CE)
  /-- raise C(e) -/
  | rse (x : Str) (e : CE)
  | never
  /-- no statement: a name's list is not changed any more -/
  | fz (i : Nat)
inductive CSs where
  | nil
  | cons (s : CS) (ss : CSs)
end

/-! ### data -/
def kMerge {α : Type} (le : α → α → Bool) : Nat → List α → List α → List α
  | 0, xs, ys => xs ++ ys
  | _ + 1, [], ys => ys
  | _ + 1, xs, [] => xs
  | n + 1, x :: xs, y :: ys => if le x y then x :: kMerge le n xs (y :: ys) else y :: kMerge le n (x :: xs) ys
theorem kMerge_eq {α : Type} (le : α → α → Bool) : ∀ (n : Nat) (xs ys : List α), xs.length + ys.length ≤ n → kMerge le n xs ys = List.merge xs ys le
  | 0, [], [], _ => by simp [kMerge]
  | 0, [], _ :: _, h => by simp at h
  | 0, _ :: _, _, h => by simp at h
  | n + 1, [], ys, _ => by simp [kMerge]
  | n + 1, x :: xs, [], _ => by simp [kMerge]
  | n + 1, x :: xs, y :: ys, h => by
    simp only [List.length_cons] at h
    rw [kMerge, kMerge_eq le n xs (y :: ys) (by simp; omega), kMerge_eq le n (x :: xs) ys (by simp; omega), List.cons_merge_cons]
def kSortF {α : Type} (le : α → α → Bool) : Nat → List α → List α
  | 0, xs => xs
  | _ + 1, [] => []
  | _ + 1, [a] => [a]
  | n + 1, a :: b :: xs => kMerge le (xs.length + 2) (kSortF le n ((a :: b :: xs).take ((xs.length + 3) / 2))) (kSortF le n ((a :: b :: xs).drop ((xs.length + 3) / 2)))
theorem kSortF_eq {α : Type} (le : α → α → Bool) : ∀ (n : Nat) (xs : List α), xs.length ≤ n → kSortF le n xs = xs.mergeSort le
  | 0, [], _ => by simp [kSortF]
  | 0, _ :: _, h => by simp at h
  | n + 1, [], _ => by simp [kSortF]
  | n + 1, [a], _ => by simp [kSortF]
  | n + 1, a :: b :: xs, h => by
    simp only [List.length_cons] at h
    rw [kSortF, kSortF_eq le n _ (by simp; omega), kSortF_eq le n _ (by simp; omega), kMerge_eq le _ _ _ (by simp [List.length_mergeSort]; omega)]
    conv => rhs; rw [List.mergeSort]
    simp only [List.MergeSort.Internal.splitInTwo_fst, List.MergeSort.Internal.splitInTwo_snd]
    rfl
def kSort {α : Type} (le : α → α → Bool) (xs : List α) : List α := kSortF le xs.length xs
theorem kSort_eq {α : Type} (le : α → α → Bool) (xs : List α) : kSort le xs = xs.mergeSort le := kSortF_eq le _ _ (Nat.le_refl _)
def deep (p q : PyData) : Bool := decide (min p.depth q.depth ≤ 100)
def cut {α : Type} (xs : List α) (lo hi : Option Int) : List α := (xs.drop (HT.sIx xs.length 0 lo)).take (HT.sIx xs.length xs.length hi - HT.sIx xs.length 0 lo)
def small (i : Int) : Bool := decide (-(2 ^ 64) < i) && decide (i < 2 ^ 64)

def binP : BOp → PyData → PyData → Option PyData
  | .add, .int i, .int j => some (.int (i + j))
  | .add, .tuple xs, .tuple ys => if xs.length + ys.length ≤ sizeLine then some (.tuple (xs ++ ys)) else none
  | .add, .list xs, .list ys => if xs.length + ys.length ≤ sizeLine then some (.list (xs ++ ys)) else none
  | .sub, .int i, .int j => some (.int (i - j))
  | .mul, .int i, .int j => if small i || small j then some (.int (i * j)) else none
  | .mul, .tuple xs, .int j => if j = 1 then some (.tuple xs) else if j = 0 ∧ xs ≠ [] then some (.tuple []) else if 2 ≤ j ∧ j ≤ 1000 ∧ xs.length ≤ 1000 ∧ xs ≠ [] then some (.tuple (List.replicate j.toNat xs).flatten) else none
  | .fdiv, .int i, .int j => if 0 < j ∧ j < 1073741824 then some (.int (i / j)) else none
  | .mod, .int i, .int j => if 0 < j then some (.int (i % j)) else none
  | .pow, .int i, .int j => if 0 ≤ j ∧ j ≤ 1000000 ∧ i.natAbs < 2 ^ 64 then some (.int (i ^ j.toNat)) else none
  | _, _, _ => none
def binD (o : BOp) : D → D → Option D
  | .dat p, .dat q => (binP o p q).map .dat
  | _, _ => none

def ordP (o : COp) (p q : PyData) : Option Bool :=
  match o with
  | .lt => if PySem.W.alike p q && deep p q then (match p with | .none => none | _ => some (PySem.W.dataLt p q)) else none
  | _ => none
def cmpP (o : COp) (p q : PyData) : Option Bool :=
  match o, p, q with
  | .eq, _, _ => if deep p q then some (PyData.eqv p q) else none
  | .ne, _, _ => if deep p q then some (!PyData.eqv p q) else none
  | .lt, .int i, .int j => some (decide (i < j))
  | .le, .int i, .int j => some (decide (i ≤ j))
  | .gt, .int i, .int j => some (decide (j < i))
  | .ge, .int i, .int j => some (decide (j ≤ i))
  | .isin, _, .tuple xs => if deep (.tuple xs) p then some (xs.any fun y => PyData.eqv y p) else none
  | .isin, _, .list xs => if deep (.list xs) p then some (xs.any fun y => PyData.eqv y p) else none
  | .notin, _, .tuple xs => if deep (.tuple xs) p then some (!xs.any fun y => PyData.eqv y p) else none
  | .notin, _, .list xs => if deep (.list xs) p then some (!xs.any fun y => PyData.eqv y p) else none
  | o, p, q => ordP o p q
def isNone : D → Bool
  | .dat .none => true
  | _ => false
/-- is, of truth values -/
def isBl : D → D → Option Bool
  | .dat (.bool a), .dat (.bool b) => some (decide (a = b))
  | _, _ => none
/-- a key among the keys -/
def inT (h : Hs) : D → D → Option Bool
  | .dat p, .dct kvs => if keyOk p then some (tabGet kvs p).isSome else none
  | .dat p, .ref n => match h[n]? with
    | some (.tab kvs) => if keyOk p then some (tabGet kvs p).isSome else none
    | _ => none
  | _, _ => none
def cmpR (h : Hs) (o : COp) (x y : D) : Option Bool := match rd h x, rd h y with
  | some p, some q => cmpP o p q
  | _, _ => none
def cmpD (h : Hs) (o : COp) (x y : D) : Option Bool :=
  match o with
  | .isN => if isNone y then some (isNone x) else isBl x y
  | .notN => if isNone y then some (!isNone x) else (isBl x y).map (!·)
  | .isin => match inT h x y with
    | some b => some b
    | none => cmpR h .isin x y
  | .notin => match inT h x y with
    | some b => some (!b)
    | none => cmpR h .notin x y
  | o => cmpR h o x y

def allAlike (xs : List PyData) : Bool := xs.all fun x => xs.all fun y => PySem.W.alike x y
def sortable (xs : List PyData) : Bool := (xs.all fun x => match x with | .tuple (_ :: _) => true | _ => false) || (xs.all fun x => match x with | .tuple _ => false | .none => false | _ => true)
def items : PyData → Option (List PyData)
  | .list xs => some xs
  | .tuple xs => some xs
  | _ => none
def isBoolD : PyData → Bool
  | .bool _ => true
  | _ => false
def lenP : List PyData → Option PyData
  | [.list xs] => some (.int xs.length)
  | [.tuple xs] => some (.int xs.length)
  | _ => none
def intP : List PyData → Option PyData
  | [.int i] => some (.int i)
  | [.bool b] => some (.int (if b then 1 else 0))
  | _ => none
def allP : List PyData → Option PyData
  | [.list xs] => if xs.all isBoolD then some (.bool (xs.all PyData.truthy)) else none
  | _ => none
def anyP : List PyData → Option PyData
  | [.list xs] => if xs.all isBoolD then some (.bool (xs.any PyData.truthy)) else none
  | _ => none
def sortOk (xs : List PyData) : Bool := allAlike xs && sortable xs && decide (PyData.depthAll xs ≤ 100)
def sortP : List PyData → Option PyData
  | [.list xs] => if sortOk xs then some (.list (kSort (PySem.W.dataLe false id) xs)) else none
  | [.tuple xs] => if sortOk xs then some (.list (kSort (PySem.W.dataLe false id) xs)) else none
  | _ => none
def tupP : List PyData → Option PyData
  | [.list xs] => some (.tuple xs)
  | [.tuple xs] => some (.tuple xs)
  | _ => none
def lstP : List PyData → Option PyData
  | [.list xs] => some (.list xs)
  | [.tuple xs] => some (.list xs)
  | _ => none
def notNone : PyData → Bool
  | .none => false
  | _ => true
def extOk (xs : List PyData) : Bool := allAlike xs && xs.all notNone && decide (PyData.depthAll xs ≤ 100)
def minP : List PyData → Option PyData
  | [.list (x :: xs)] => if extOk (x :: xs) then some (PySem.W.minD x xs) else none
  | _ => none
def maxP : List PyData → Option PyData
  | [.list (x :: xs)] => if extOk (x :: xs) then some (PySem.W.maxD x xs) else none
  | _ => none
def min2P : List PyData → Option PyData
  | [.int i, .int j] => some (.int (if j < i then j else i))
  | _ => none
def max2P : List PyData → Option PyData
  | [.int i, .int j] => some (.int (if j > i then j else i))
  | _ => none
def absP : List PyData → Option PyData
  | [.int i] => some (.int (if i < 0 then -i else i))
  | _ => none
/-- data that can be shown -/
def reprP : List PyData → Option PyData
  | [p] => if p.showable && !p.hasDict && decide (p.depth ≤ 100) && decide (p.shown.length ≤ sizeLine) then some (.str p.shown) else none
  | _ => none
def bfP : BF → List PyData → Option PyData
  | .len => lenP
  | .int => intP
  | .all => allP
  | .any => anyP
  | .sorted => sortP
  | .tuple => tupP
  | .list => lstP
  | .min1 => minP
  | .max1 => maxP
  | .min2 => min2P
  | .max2 => max2P
  | .abs => absP
  | .repr => reprP
def rds (h : Hs) : List D → Option (List PyData)
  | [] => some []
  | d :: r => match rd h d, rds h r with
    | some p, some ps => some (p :: ps)
    | _, _ => none
def bfD (h : Hs) (b : BF) (ds : List D) : Option D :=
  match rds h ds with
  | some ps => (bfP b ps).map .dat
  | none => none
def isP : Ty → PyData → Bool
  | .int, p => p.isInt
  | .bool, p => p.isBool
  | .str, p => p.isStr
  | .tuple, p => p.isTuple
def idxP : PyData → PyData → Option PyData
  | .list xs, .int i => L2.atI xs i
  | .tuple xs, .int i => L2.atI xs i
  | _, _ => none
def slcP : PyData → Option Int → Option Int → Option PyData
  | .list xs, lo, hi => some (.list (cut xs lo hi))
  | .tuple xs, lo, hi => some (.tuple (cut xs lo hi))
  | _, _, _ => none

def idxR (h : Hs) (x y : D) : Option D := match rd h x, y with
  | some p, .dat q => (idxP p q).map .dat
  | _, _ => none
def idxT (h : Hs) : D → D → Option D
  | .dct kvs, .dat p => if keyOk p then (tabGet kvs p).map .dat else none
  | .ref n, .dat p => match h[n]?, p with
    | some (.tab kvs), p => if keyOk p then tabGet kvs p else none
    | some (.dic kvs), .str x => kvs.lookup x
    | _, _ => none
  | _, _ => none
/-- x[y] -/
def idxD (h : Hs) (x y : D) : Option D := match idxT h x y with
  | some d => some d
  | none => idxR h x y
def putD (h : Hs) : D → D → D → Option Hs
  | .ref n, .dat p, d => match h[n]? with
    | some (.tab kvs) => if keyOk p ∧ kvs.length < sizeLine then some (h.set n (.tab (tabPut kvs p d))) else none
    | some (.dic kvs) => match p with
      | .str x => if kvs.length < sizeLine then some (h.set n (.dic (dicPut kvs x d))) else none
      | _ => none
    | _ => none
  | _, _, _ => none

def valsD : List (PyData × D) → Option (List (PyData × PyData))
  | [] => some []
  | (k, .dat p) :: r => (valsD r).map ((k, p) :: ·)
  | _ :: _ => none
def tabD (h : Hs) (n : Nat) : Option (List (PyData × PyData)) := match h[n]? with
  | some (.tab kvs) => valsD kvs
  | _ => none
/-! ### targets -/
mutual
def bindT : Tg → D → En → Option En
  | .name i, d, ρ => some (ρ.set i (some d))
  | .tup ts, .dat (.tuple ps), ρ => bindTs ts ps ρ
  | .tup _, _, _ => none
def bindTs : Tgs → List PyData → En → Option En
  | .nil, [], ρ => some ρ
  | .cons t ts, p :: ps, ρ => match bindT t (.dat p) ρ with
    | some ρ' => bindTs ts ps ρ'
    | none => none
  | _, _, _ => none
end
def wipeE (ρ : En) : List Nat → En
  | [] => ρ
  | v :: vs => (wipeE ρ vs).set v none

/-! ### the evaluator -/
abbrev Calls := Nat → List D → Hs → R D
/-- a comprehension over items -/
def compL (bnd : D → Option En) (tst : En → Hs → R Bool) (elt : En → Hs → R D) : List D → Hs → R (List PyData)
  | [], h => .ok [] h
  | d :: ds, h => match bnd d with
    | none => .no
    | some ρ => match tst ρ h with
      | .ok true h1 => match elt ρ h1 with
        | .ok (.dat p) h2 => (compL bnd tst elt ds h2).bind fun ps h3 => .ok (p :: ps) h3
        | _ => .no
      | .ok false h1 => compL bnd tst elt ds h1
      | _ => .no
def asBool : D → Option Bool
  | .dat (.bool b) => some b
  | _ => none
def asB (r : R D) : R Bool := r.bind fun d h => R.of (asBool d) h
def rngL (lo hi : Int) : List D := (List.range (hi - lo).toNat).map fun (k : Nat) => dI (lo + (k : Int))
def rngOk (i : Int) : Bool := decide (-1000000 ≤ i) && decide (i ≤ 1000000)

def lstAt (h : Hs) : D → Option Nat
  | .ref n => match h[n]? with
    | some (.lst _) => some n
    | _ => none
  | _ => none
/-- the place that pop takes -/
def popIx (xs : List D) : Option Int → Option Nat
  | none => some (xs.length - 1)
  | some i => if -(2 ^ 63) ≤ i ∧ i < 2 ^ 63 then seqIndex? i xs.length else none
def popAt (n : Nat) (i : Option Int) (h : Hs) : R D := match h[n]? with
  | some (.lst xs) => match popIx xs i with
    | some k => match xs[k]? with
      | some y => .ok y (h.set n (.lst (xs.eraseIdx k)))
      | none => .no
    | none => .no
  | _ => .no
/-- what the laws say of a call's end -/
def saidR : R D → R D
  | .ok _ h => .ok (dT [.str "said"]) h
  | .ex x h => match errRow x.cls with
    | some r => match r.fld with
      | some _ => .ok (dT [.str r.word, x.fld]) h
      | none => .ok (dT [.str r.word]) h
    | none => .no
  | .no => .no
def rseR (x : Str) (d : D) (h : Hs) : R Fl := match errRow x, d with
  | some r, .dat p => .ex ⟨x, if r.fld.isSome then p else .none⟩ h
  | _, _ => .no
mutual
def evE (C : Calls) : CE → En → Hs → R D
  | .var i, ρ, h => match ρ[i]? with
    | some (some d) => .ok d h
    | _ => .no
  | .cst p, _, h => .ok (.dat p) h
  | .tup es, ρ, h => (evEs C es ρ h).bind fun ds h1 => R.of ((dats ds).map dT) h1
  | .lst es, ρ, h => (evEs C es ρ h).bind fun ds h1 => R.of ((dats ds).map dL) h1
  | .mk es, ρ, h => (evEs C es ρ h).bind fun ds h1 => .ok (.ref h1.length) (h1 ++ [.lst ds])
  | .bin o a b, ρ, h => (evE C a ρ h).bind fun x h1 => (evE C b ρ h1).bind fun y h2 => R.of (binD o x y) h2
  | .neg a, ρ, h => (evE C a ρ h).bind fun x h1 => match x with
    | .dat (.int i) => .ok (dI (-i)) h1
    | _ => .no
  | .nt a, ρ, h => (asB (evE C a ρ h)).bind fun t h1 => .ok (dB (!t)) h1
  | .and a b, ρ, h => (asB (evE C a ρ h)).bind fun t h1 => if t then evE C b ρ h1 else .ok (dB false) h1
  | .or a b, ρ, h => (asB (evE C a ρ h)).bind fun t h1 => if t then .ok (dB true) h1 else evE C b ρ h1
  | .cmp o a b, ρ, h => (evE C a ρ h).bind fun x h1 => (evE C b ρ h1).bind fun y h2 => R.of ((cmpD h2 o x y).map dB) h2
  | .chn o o' a b c, ρ, h => (evE C a ρ h).bind fun x h1 => (evE C b ρ h1).bind fun y h2 => match cmpD h2 o x y with
    | some true => (evE C c ρ h2).bind fun z h3 => R.of ((cmpD h3 o' y z).map dB) h3
    | some false => .ok (dB false) h2
    | none => .no
  | .ite c a b, ρ, h => (asB (evE C c ρ h)).bind fun t h1 => if t then evE C a ρ h1 else evE C b ρ h1
  | .call f es, ρ, h => (evEs C es ρ h).bind fun ds h1 => C f ds h1
  | .bf b es, ρ, h => (evEs C es ρ h).bind fun ds h1 => R.of (bfD h1 b ds) h1
  | .isi t a, ρ, h => (evE C a ρ h).bind fun x h1 => match x with
    | .dat p => .ok (dB (isP t p)) h1
    | _ => .no
  | .idx a i, ρ, h => (evE C a ρ h).bind fun x h1 => (evE C i ρ h1).bind fun y h2 => R.of (idxD h2 x y) h2
  | .slc a lo hi, ρ, h => (evE C a ρ h).bind fun x h1 => (evO C lo ρ h1).bind fun i h2 => (evO C hi ρ h2).bind fun j h3 => match x with
    | .dat p => R.of ((slcP p i j).map .dat) h3
    | _ => .no
  | .comp e t own it c, ρ, h => (evI C it ρ h).bind fun ds h1 =>
      (compL (fun d => bindT t d (wipeE ρ own)) (fun ρ' h' => evT C c ρ' h') (fun ρ' h' => evE C e ρ' h') ds h1).bind fun ps h2 => .ok (dL ps) h2
  | .tab _ t a, ρ, h => (evE C a ρ h).bind fun x h1 => match x with
    | .dat (.str s) => R.of ((t.lookup s).map .dat) h1
    | _ => .no
  | .frz a, ρ, h => (evE C a ρ h).bind fun x h1 => match x with
    | .ref n => match rd h1 (.ref n) with
      | some p => .ok (.dat p) (h1.set n .gone)
      | none => match tabD h1 n with
        | some kvs => .ok (.dct kvs) (h1.set n .gone)
        | none => .no
    | .dat p => .ok (.dat p) h1
    | .scr ns => .no
    | .dct kvs => .ok (.dct kvs) h1
    | .exv x => .ok (.exv x) h1
  | .dsp ks es, ρ, h => (evEs C es ρ h).noX.bind fun ds h1 => if ds.length = ks.length then .ok (.ref h1.length) (h1 ++ [.dic (ks.zip ds)]) else .no
  | .tb0, _, h => .ok (.ref h.length) (h ++ [.tab []])
  | .tb1 k v, ρ, h => (evE C k ρ h).bind fun x h1 => (evE C v ρ h1).bind fun y h2 => match x with
    | .dat p => if keyOk p then .ok (.ref h2.length) (h2 ++ [.tab [(p, y)]]) else .no
    | _ => .no
  | .rev a, ρ, h => (evE C a ρ h).bind fun x h1 => match rd h1 x with
    | some (.list ps) => .ok (dL ps.reverse) h1
    | _ => .no
  | .pop0 l, ρ, h => (evE C l ρ h).bind fun x h1 => match lstAt h1 x with
    | some n => popAt n none h1
    | none => .no
  | .pop1 l i, ρ, h => (evE C l ρ h).bind fun x h1 => match lstAt h1 x with
    | some n => (evE C i ρ h1).bind fun y h2 => match y with
      | .dat (.int i) => popAt n (some i) h2
      | _ => .no
    | none => .no
  | .bfm b es, ρ, h => (evEs C es ρ h).bind fun ds h1 => match bfD h1 b ds with
    | some (.dat (.list qs)) => .ok (.ref h1.length) (h1 ++ [.lst (qs.map .dat)])
    | _ => .no
  | .lrg a, ρ, h => (evE C a ρ h).bind fun x h1 => match x with
    | .dat (.int i) => if rngOk i then .ok (dL ((List.range i.toNat).map fun (k : Nat) => .int k)) h1 else .no
    | _ => .no
  | .lsd a, ρ, h => (evE C a ρ h).bind fun x h1 => match x with
    | .dct kvs => .ok (dL (kvs.map (·.1))) h1
    | _ => .no
  | .said a, ρ, h => saidR (evE C a ρ h)
  | .isx c a, ρ, h => (evE C a ρ h).bind fun x h1 => match x with
    | .exv x => .ok (dB (decide (x.cls = c))) h1
    | _ => .no
  | .fld f a, ρ, h => (evE C a ρ h).bind fun x h1 => match x with
    | .exv x => (match errRow x.cls with
      | some r => if r.fld = some f then .ok (.dat x.fld) h1 else .no
      | none => .no)
    | _ => .no
def evEs (C : Calls) : CEs → En → Hs → R (List D)
  | .nil, _, h => .ok [] h
  | .cons e es, ρ, h => (evE C e ρ h).bind fun d h1 => (evEs C es ρ h1).bind fun ds h2 => .ok (d :: ds) h2
def evO (C : Calls) : CO → En → Hs → R (Option Int)
  | .none, _, h => .ok none h
  | .some e, ρ, h => (evE C e ρ h).bind fun d h1 => match d with
    | .dat (.int i) => .ok (some i) h1
    | _ => .no
def evT (C : Calls) : CO → En → Hs → R Bool
  | .none, _, h => .ok true h
  | .some e, ρ, h => asB (evE C e ρ h)
def evI (C : Calls) : IT → En → Hs → R (List D)
  | .seq a, ρ, h => (evE C a ρ h).bind fun x h1 => match x with
    | .dat (.list ps) => .ok (ps.map .dat) h1
    | .dat (.tuple ps) => .ok (ps.map .dat) h1
    | .scr ns => .ok (ns.map dI) h1
    | .dct kvs => .ok (kvs.map fun q => .dat q.1) h1
    | _ => .no
  | .rng1 a, ρ, h => (evE C a ρ h).bind fun x h1 => match x with
    | .dat (.int i) => if rngOk i then .ok (rngL 0 i) h1 else .no
    | _ => .no
  | .rng2 a b, ρ, h => (evE C a ρ h).bind fun x h1 => (evE C b ρ h1).bind fun y h2 => match x, y with
    | .dat (.int i), .dat (.int j) => if rngOk i && rngOk j then .ok (rngL i j) h2 else .no
    | _, _ => .no
  | .enum a, ρ, h => (evE C a ρ h).bind fun x h1 => match x with
    | .dat (.list ps) => .ok (ps.mapIdx fun i p => dT [.int i, p]) h1
    | .dat (.tuple ps) => .ok (ps.mapIdx fun i p => dT [.int i, p]) h1
    | _ => .no
  | .zip a b, ρ, h => (evE C a ρ h).bind fun x h1 => (evE C b ρ h1).bind fun y h2 => match x, y with
    | .dat (.list ps), .dat (.list qs) => .ok ((ps.zip qs).map fun r => dT [r.1, r.2]) h2
    | .dat (.tuple ps), .dat (.tuple qs) => .ok ((ps.zip qs).map fun r => dT [r.1, r.2]) h2
    | _, _ => .no
end

inductive Fl where
  | nx (ρ : En)
  | rt (d : D)
  | bk (ρ : En)
  | ct (ρ : En)
def forL (bnd : D → En → Option En) (body : En → Hs → R Fl) : List D → En → Hs → R Fl
  | [], ρ, h => .ok (.nx ρ) h
  | d :: ds, ρ, h => match bnd d ρ with
    | none => .no
    | some ρ1 => (body ρ1 h).bind fun fl h1 => match fl with
      | .nx ρ2 => forL bnd body ds ρ2 h1
      | .ct ρ2 => forL bnd body ds ρ2 h1
      | .bk ρ2 => .ok (.nx ρ2) h1
      | .rt v => .ok (.rt v) h1
def whlL (tst : En → Hs → R Bool) (body : En → Hs → R Fl) : Nat → En → Hs → R Fl
  | 0, _, _ => .no
  | n + 1, ρ, h => (tst ρ h).bind fun t h1 => if t then (body ρ h1).bind fun fl h2 => match fl with
      | .nx ρ2 => whlL tst body n ρ2 h2
      | .ct ρ2 => whlL tst body n ρ2 h2
      | .bk ρ2 => .ok (.nx ρ2) h2
      | .rt v => .ok (.rt v) h2
    else .ok (.nx ρ) h1
/-- the most turns of a while -/
def turns : Nat := 2 ^ 64

def appAt (n : Nat) (y : D) (ρ : En) (h : Hs) : R Fl := match h[n]? with
  | some (.lst xs) => if xs.length < sizeLine then .ok (.nx ρ) (h.set n (.lst (xs ++ [y]))) else .no
  | _ => .no
def extAt (n : Nat) (y : D) (ρ : En) (h : Hs) : R Fl := match h[n]?, y with
  | some (.lst xs), .dat (.list ps) => if xs.length + ps.length ≤ sizeLine then .ok (.nx ρ) (h.set n (.lst (xs ++ ps.map .dat))) else .no
  | _, _ => .no
def frzR (x : D) (h1 : Hs) : R D := match x with
    | .ref n => match rd h1 (.ref n) with
      | some p => .ok (.dat p) (h1.set n .gone)
      | none => match tabD h1 n with
        | some kvs => .ok (.dct kvs) (h1.set n .gone)
        | none => .no
    | .dat p => .ok (.dat p) h1
    | .scr ns => .no
    | .dct kvs => .ok (.dct kvs) h1
    | .exv x => .ok (.exv x) h1
mutual
def evS (C : Calls) : CS → En → Hs → R Fl
  | .asg t e, ρ, h => (evE C e ρ h).bind fun x h1 => R.of ((bindT t x ρ).map .nx) h1
  | .par i j a b, ρ, h => (evE C a ρ h).bind fun x h1 => (evE C b ρ h1).bind fun y h2 => .ok (.nx ((ρ.set i (some x)).set j (some y))) h2
  | .par3 i j l a b c, ρ, h => (evE C a ρ h).bind fun x h1 => (evE C b ρ h1).bind fun y h2 => (evE C c ρ h2).bind fun z h3 => .ok (.nx (((ρ.set i (some x)).set j (some y)).set l (some z))) h3
  | .put d k v, ρ, h => (evE C v ρ h).bind fun z h1 => (evE C d ρ h1).bind fun x h2 => (evE C k ρ h2).bind fun y h3 => match putD h3 x y z with
    | some h4 => .ok (.nx ρ) h4
    | none => .no
  | .app l e, ρ, h => (evE C l ρ h).bind fun x h1 => match lstAt h1 x with
    | some n => (evE C e ρ h1).bind fun y h2 => appAt n y ρ h2
    | none => .no
  | .ext l e, ρ, h => (evE C l ρ h).bind fun x h1 => match lstAt h1 x with
    | some n => (evE C e ρ h1).bind fun y h2 => extAt n y ρ h2
    | none => .no
  | .ret e, ρ, h => (evE C e ρ h).bind fun x h1 => .ok (.rt x) h1
  | .cond c a b, ρ, h => (asB (evE C c ρ h)).bind fun t h1 => if t then evSs C a ρ h1 else evSs C b ρ h1
  | .loop t it b, ρ, h => (evI C it ρ h).bind fun ds h1 => forL (fun d ρ => bindT t d ρ) (fun ρ h => evSs C b ρ h) ds ρ h1
  | .whl c b, ρ, h => whlL (fun ρ h => asB (evE C c ρ h)) (fun ρ h => evSs C b ρ h) turns ρ h
  | .drop e, ρ, h => (evE C e ρ h).bind fun _ h1 => .ok (.nx ρ) h1
  | .rse x e, ρ, h => (evE C e ρ h).bind fun d h1 => rseR x d h1
  | .never, _, _ => .no
  | .fz i, ρ, h => match ρ[i]? with
    | some (some d) => (frzR d h).bind fun x h1 => .ok (.nx (ρ.set i (some x))) h1
    | _ => .no
def evSs (C : Calls) : CSs → En → Hs → R Fl
  | .nil, ρ, h => .ok (.nx ρ) h
  | .cons s ss, ρ, h => (evS C s ρ h).bind fun fl h1 => match fl with
    | .nx ρ1 => evSs C ss ρ1 h1
    | .rt v => .ok (.rt v) h1
    | .bk ρ1 => .ok (.bk ρ1) h1
    | .ct ρ1 => .ok (.ct ρ1) h1
end

/-- a def: how many parameters, how many other names, its body -/
structure FD where
  np : Nat
  nl : Nat
  body : CSs
def runF (C : Calls) (fd : FD) (args : List D) (h : Hs) : R D :=
  if args.length = fd.np then (evSs C fd.body (args.map some ++ List.replicate fd.nl none) h).bind fun fl h1 => match fl with
    | .nx _ => .ok dN h1
    | .rt d => .ok d h1
    | _ => .no
  else .no
/-- a call with data alone runs by itself, and leaves the store as it is -/
def callF (C : Calls) (fd : FD) (args : List D) (h : Hs) : R D :=
  match dats args with
  | none => runF C fd args h
  | some _ => match runF C fd args [] with
    | .ok (.dat p) _ => .ok (.dat p) h
    | .ok (.dct kvs) _ => .ok (.dct kvs) h
    | .ok _ _ => runF C fd args h
    | .ex x _ => .ex x h
    | .no => .no
def evF (G : List FD) : Nat → Calls
  | 0 => fun _ _ _ => .no
  | k + 1 => fun f args h => match G[f]? with
    | some fd => callF (evF G k) fd args h
    | none => .no
end L2.LC

/-! LC: how values of the core stand in the layer's heap. -/
namespace L2.LC
open PySem PySem.Spec PyProof.Rows

/-- the written part, the world (a text's hash is the world's), the module's names -/
structure Kw where
  fr : PySem.W.Frag
  w : World
  mg : Str → Option Value
instance : CoeOut Kw PySem.W.Frag := ⟨Kw.fr⟩
/-- .. and what is wanted of an exception -/
structure Kx extends Kw where
  xk : XK
instance : CoeOut Kx Kw := ⟨Kx.toKw⟩
/-- an exception of which all of this holds may leave X -/
def xX (X : Cx) : XK := fun cls d H => ∀ (a : Addr) (B : Heap) (sI : Shared) (pins : List (Addr × Obj)) (σ : St) (s' : Shared), Inv X pins σ H sI → (∀ b o, sI.heap.get? b = some o → b ∉ frs X.stack → B.get? b = some o) → sI.heap.UpToSlots s'.heap →
  Sky B X.stack a (Zc cls d) X.env.locals s'.heap → H a = none → s'.os = sI.os → AllBare s'.gens → X.xe (.ref a) s'
theorem takes_x {X : Cx} : Takes X (fun cls d _ H => xX X cls d H) := fun u s' ⟨a, B, sI, pins, σ, H, cls, d, e, h1, h2, h3, h4, h5, h6, h7, h8⟩ => by
  rw [e]
  exact h8 a B sI pins σ s' h1 h2 h3 h4 h5 h6 h7
theorem x_takes {X : Cx} {E : XK} (t : Takes X (fun cls d _ H => E cls d H)) {cls : Value} {d : Option Addr} {H : Hp} (h : E cls d H) : xX X cls d H :=
  fun a B sI pins σ s' h1 h2 h3 h4 h5 h6 h7 => t _ s' ⟨a, B, sI, pins, σ, H, cls, d, rfl, h1, h2, h3, h4, h5, h6, h7, h⟩
abbrev _root_.L2.Cx.kw (X : Cx) : Kx := ⟨⟨X.K, X.w, X.mg⟩, xX X⟩
/-! ### tables of code objects (where lambdas are made) -/
def noTbl : HO → Prop
  | .tbl _ => False
  | _ => True
/-- the names of the defs that make lambdas -/
def lamNames0 : List Str := ["law", "_law_right", "_law_odd_right", "_law_pair", "_law_alone", "_law_three"]
def lamNames1 : List Str := ["_law_said_of", "_law_all", "_law_rows_refuse", "_law_bounds_right"]
def lamNames : List Str := lamNames0 ++ lamNames1
def isFnB (K : PySem.W.Frag) (x : Str) : Bool := match PySem.W.nsIn K mainGlobals x with
  | some (some (.ref a)) => (match K.lookup a with
    | some ⟨_, _, .func _, _⟩ => true
    | _ => false)
  | _ => false
/-- the tables: where each stands, the qualified name of the lambdas -/
def tabsK (K : PySem.W.Frag) : List (Addr × Str) := (lamNames.filter (isFnB K)).map fun x => ((He.cT K (x, none)).2, (x ++ (".<locals>." : Str)) ++ ("<lambda>" : Str))
def Ob.live : Ob → Bool
  | .gone => false
  | _ => true
def Live (μ : List Addr) (S : Hs) (a : Addr) : Prop := ∃ (n : Nat) (o : Ob), μ[n]? = some a ∧ S[n]? = some o ∧ o.live = true

/-- live, or hidden (a list that a comprehension fills) -/
def Lv (Z : Addr → Prop) (μ : List Addr) (S : Hs) (a : Addr) : Prop := Live μ S a ∨ Z a
/-- a list, a tuple that nobody changes -/
def FxL (H : Hp) (L : Addr → Prop) (a : Addr) (xs : List V) : Prop := Rd H a (.lst xs) ∧ ¬ L a
def FxT (K : PySem.W.Frag) (H : Hp) (L : Addr → Prop) (a : Addr) (xs : List V) : Prop := (Rd H a (.tup xs) ∧ ¬ L a) ∨
  ∃ (o : Obj) (its : Array Value) (n : Nat), K.lookup a = some o ∧ o.cls = .type "tuple" ∧ o.data = .seq its n ∧ its.size ≤ sizeLine ∧ Vals xs its.toList
mutual
inductive Rp (K : PySem.W.Frag) (H : Hp) (L : Addr → Prop) : V → PyData → Prop
  | non : Rp K H L .non .none
  | bl (b : Bool) : Rp K H L (.bl b) (.bool b)
  | int (i : Int) : Rp K H L (.int i) (.int i)
  | str (x : Str) : Rp K H L (.str x) (.str x)
  | lst {a : Addr} {xs : List V} {ds : List PyData} : FxL H L a xs → ds.length ≤ sizeLine → RpAll K H L xs ds → Rp K H L (.ref a) (.list ds)
  | tup {a : Addr} {xs : List V} {ds : List PyData} : FxT K H L a xs → ds.length ≤ sizeLine → RpAll K H L xs ds → Rp K H L (.ref a) (.tuple ds)
inductive RpAll (K : PySem.W.Frag) (H : Hp) (L : Addr → Prop) : List V → List PyData → Prop
  | nil : RpAll K H L [] []
  | cons {v : V} {vs : List V} {d : PyData} {ds : List PyData} : Rp K H L v d → RpAll K H L vs ds → RpAll K H L (v :: vs) (d :: ds)
end
theorem FxL.sq {K : PySem.W.Frag} {H : Hp} {L : Addr → Prop} {a : Addr} {xs : List V} (h : FxL H L a xs) : SqL K H a xs := .inl h.1
theorem FxT.sq {K : PySem.W.Frag} {H : Hp} {L : Addr → Prop} {a : Addr} {xs : List V} (h : FxT K H L a xs) : SqT K H a xs := by
  rcases h with h | h
  · exact .inl h.1
  · exact .inr h
mutual
theorem Rp.dp {K : PySem.W.Frag} {H : Hp} {L : Addr → Prop} : ∀ {v : V} {p : PyData}, Rp K H L v p → Dp K H v p
  | _, _, .non => .non
  | _, _, .bl b => .bl b
  | _, _, .int i => .int i
  | _, _, .str x => .str x
  | _, _, .lst h _ r => .lst h.sq (RpAll.dp r)
  | _, _, .tup h _ r => .tup h.sq (RpAll.dp r)
theorem RpAll.dp {K : PySem.W.Frag} {H : Hp} {L : Addr → Prop} : ∀ {vs : List V} {ps : List PyData}, RpAll K H L vs ps → DpAll K H vs ps
  | _, _, .nil => .nil
  | _, _, .cons a b => .cons (Rp.dp a) (RpAll.dp b)
end

/-- heaps one behind another: what is not a live place, nor a table, is kept -/
structure Later (μ : List Addr) (S : Hs) (H : Hp) (μ' : List Addr) (S' : Hs) (H' : Hp) : Prop where
  pre : ∃ t, μ' = μ ++ t
  keep : ∀ a o, H a = some o → noTbl o → ¬ Live μ S a → H' a = some o ∧ ¬ Live μ' S' a
  st : ∀ a o, H a = some o → ∃ o', H' a = some o'
theorem st_upd (H : Hp) (p : Addr) (u : HO) : ∀ a o, H a = some o → ∃ o', upd H p u a = some o' := fun a o h => by
  by_cases e : a = p
  · exact ⟨u, by rw [e, upd_same]⟩
  · exact ⟨o, by rw [upd_ne e]; exact h⟩
theorem Later.refl (μ : List Addr) (S : Hs) (H : Hp) : Later μ S H μ S H := ⟨⟨[], by simp⟩, fun _ _ h _ n => ⟨h, n⟩, fun _ o h => ⟨o, h⟩⟩
theorem Later.trans {μ μ1 μ2 : List Addr} {S S1 S2 : Hs} {H H1 H2 : Hp} (a : Later μ S H μ1 S1 H1) (b : Later μ1 S1 H1 μ2 S2 H2) : Later μ S H μ2 S2 H2 := by
  obtain ⟨t, rfl⟩ := a.pre
  obtain ⟨u, rfl⟩ := b.pre
  exact ⟨⟨t ++ u, by simp⟩, fun c o h z n => b.keep c o (a.keep c o h z n).1 z (a.keep c o h z n).2, fun c o h => (a.st c o h).elim fun o' h' => b.st c o' h'⟩
theorem Later.at {μ μ' : List Addr} {S S' : Hs} {H H' : Hp} (l : Later μ S H μ' S' H') {n : Nat} {a : Addr} (h : μ[n]? = some a) : μ'[n]? = some a := by
  obtain ⟨t, rfl⟩ := l.pre
  obtain ⟨hn, e⟩ := List.getElem?_eq_some_iff.mp h
  rw [List.getElem?_append_left hn]
  exact h
theorem Later.rd {μ μ' : List Addr} {S S' : Hs} {H H' : Hp} (l : Later μ S H μ' S' H') {a : Addr} {u : HO} (h : Rd H a u) (z : noTbl u) (n : ¬ Live μ S a) : Rd H' a u ∧ ¬ Live μ' S' a := by
  rcases h with h | ⟨o, h⟩
  · exact ⟨.inl (l.keep a _ h z n).1, (l.keep a _ h z n).2⟩
  · exact ⟨.inr ⟨o, (l.keep a _ h trivial n).1⟩, (l.keep a _ h trivial n).2⟩
theorem FxL.later {Z : Addr → Prop} {μ μ' : List Addr} {S S' : Hs} {H H' : Hp} (l : Later μ S H μ' S' H') {a : Addr} {xs : List V} (h : FxL H (Lv Z μ S) a xs) : FxL H' (Lv Z μ' S') a xs :=
  let q := l.rd h.1 trivial (fun z => h.2 (.inl z)); ⟨q.1, fun z => z.elim q.2 fun y => h.2 (.inr y)⟩
theorem FxT.later {K : PySem.W.Frag} {Z : Addr → Prop} {μ μ' : List Addr} {S S' : Hs} {H H' : Hp} (l : Later μ S H μ' S' H') {a : Addr} {xs : List V} (h : FxT K H (Lv Z μ S) a xs) : FxT K H' (Lv Z μ' S') a xs := by
  rcases h with h | h
  · have q := l.rd h.1 trivial (fun z => h.2 (.inl z))
    exact .inl ⟨q.1, fun z => z.elim q.2 fun y => h.2 (.inr y)⟩
  · exact .inr h
mutual
theorem Rp.later {K : PySem.W.Frag} {Z : Addr → Prop} {μ μ' : List Addr} {S S' : Hs} {H H' : Hp} (l : Later μ S H μ' S' H') : ∀ {v : V} {p : PyData}, Rp K H (Lv Z μ S) v p → Rp K H' (Lv Z μ' S') v p
  | _, _, .non => .non
  | _, _, .bl b => .bl b
  | _, _, .int i => .int i
  | _, _, .str x => .str x
  | _, _, .lst h z r => .lst (h.later l) z (RpAll.later l r)
  | _, _, .tup h z r => .tup (h.later l) z (RpAll.later l r)
theorem RpAll.later {K : PySem.W.Frag} {Z : Addr → Prop} {μ μ' : List Addr} {S S' : Hs} {H H' : Hp} (l : Later μ S H μ' S' H') : ∀ {vs : List V} {ps : List PyData}, RpAll K H (Lv Z μ S) vs ps → RpAll K H' (Lv Z μ' S') vs ps
  | _, _, .nil => .nil
  | _, _, .cons a b => .cons (Rp.later l a) (RpAll.later l b)
end

/-- a list of the written part -/
def KL (K : PySem.W.Frag) (a : Addr) (xs : List V) : Prop := ∃ (o : Obj) (its : Array Value) (n : Nat), K.lookup a = some o ∧ o.cls = .type "list" ∧ o.dict = none ∧ o.data = .seq its n ∧ its.size ≤ sizeLine ∧ Vals xs its.toList
/-- an entry of a dict with tuples as keys -/
def EntR {δ : Type} (K : Kw) (H : Hp) (L : Addr → Prop) (Vr : δ → V → Prop) (p : PyData × δ) (x : NestedKey × Addr × Value) : Prop :=
  keyOk p.1 = true ∧ x.1 = nk p.1 ∧ Rp K.fr H L (.ref x.2.1) p.1 ∧ ∃ v, RelV v x.2.2 ∧ Vr p.2 v
/-- such a dict is tracked by its very object -/
def TabAt {δ : Type} (K : Kw) (H : Hp) (L : Addr → Prop) (Vr : δ → V → Prop) (kvs : List (PyData × δ)) (a : Addr) : Prop :=
  kvs.length ≤ sizeLine ∧ (a == sysModules) = false ∧ ∃ (o : Obj) (es : Array DictEntry) (ep : Nat) (xs : List (NestedKey × Addr × Value)),
    H a = some (.ext fun h => h.get? a = some o) ∧ o.ExactDict ∧ o.data = .dict es ep ∧ es.toList = xs.map (fun x => ⟨NestedKey.hash K.w x.1, .ref x.2.1, x.2.2⟩) ∧ (xs.map (·.1)).Nodup ∧ Paired (EntR K H L Vr) kvs xs
theorem TabAt.mono {δ : Type} {K : Kw} {H H' : Hp} {L L' : Addr → Prop} {Vr Vr' : δ → V → Prop} {kvs : List (PyData × δ)} {a : Addr} (h : TabAt K H L Vr kvs a) (ha : ∀ u, H a = some u → H' a = some u)
    (hr : ∀ v p, Rp K.fr H L v p → Rp K.fr H' L' v p) (hv : ∀ d v, Vr d v → Vr' d v) : TabAt K H' L' Vr' kvs a := by
  obtain ⟨z, m, o, es, ep, xs, h1, h2, h3, h4, h5, h6⟩ := h
  exact ⟨z, m, o, es, ep, xs, ha _ h1, h2, h3, h4, h5, Paired.mapP h6 fun p x ⟨e1, e2, e3, v, e4, e5⟩ => ⟨e1, e2, hr _ _ e3, v, e4, hv _ _ e5⟩⟩
/-- an error as it flies -/
def RelX (K : Kw) (L : Addr → Prop) (H : Hp) (x : Xn) (cls : Value) (d : Option Addr) : Prop :=
  K.mg x.cls = some cls ∧ ∃ r, errRow x.cls = some r ∧ match r.fld with
    | some f => ∃ dd v, d = some dd ∧ H dd = some (.xd [(f, v)]) ∧ ¬ L dd ∧ Rp K.fr H L v x.fld
    | none => d = none
theorem RelX.mono {K : Kw} {L L' : Addr → Prop} {H H' : Hp} {x : Xn} {cls : Value} {d : Option Addr} (r : RelX K L H x cls d) (ha : ∀ a u, ¬ L a → H a = some u → noTbl u → H' a = some u ∧ ¬ L' a) (hr : ∀ v p, Rp K.fr H L v p → Rp K.fr H' L' v p) : RelX K L' H' x cls d := by
  obtain ⟨e, r, h1, h2⟩ := r
  refine ⟨e, r, h1, ?_⟩
  cases hf : r.fld with
  | none => rw [hf] at h2; exact h2
  | some f =>
    rw [hf] at h2
    obtain ⟨dd, v, q1, q2, q3, q4⟩ := h2
    exact ⟨dd, v, q1, (ha dd _ q3 q2 trivial).1, (ha dd _ q3 q2 trivial).2, hr _ _ q4⟩
/-- an error that was caught: its object, of this class, with this dict -/
def ExK (cls : Value) (d : Option Addr) (a : Addr) : HO := .ext fun h => ∃ (oe : Obj) (vs : Array Value), h.get? a = some oe ∧ Zc cls d oe ∧ oe.data = .fields vs
/-- a value of the core -/
def RelD (K : Kw) (Z : Addr → Prop) (μ : List Addr) (S : Hs) (H : Hp) : D → V → Prop
  | .scr ns, v => ∃ a, v = .ref a ∧ ns.length ≤ sizeLine ∧ (FxL H (Lv Z μ S) a (ns.map V.int) ∨ KL K a (ns.map V.int))
  | .dat p, v => Rp K H (Lv Z μ S) v p
  | .ref n, v => ∃ a, v = .ref a ∧ μ[n]? = some a
  | .dct kvs, v => ∃ a, v = .ref a ∧ ¬ Lv Z μ S a ∧ TabAt K H (Lv Z μ S) (fun p u => Rp K.fr H (Lv Z μ S) u p) kvs a
  | .exv x, v => ∃ a cls d, v = .ref a ∧ ¬ Lv Z μ S a ∧ H a = some (ExK cls d a) ∧ RelX K (Lv Z μ S) H x cls d
theorem RelD.exvMono {K : Kw} {Z Z' : Addr → Prop} {μ μ' : List Addr} {S S' : Hs} {H H' : Hp} {x : Xn} {v : V} (r : RelD K Z μ S H (.exv x) v) (hr : ∀ v p, Rp K.fr H (Lv Z μ S) v p → Rp K.fr H' (Lv Z' μ' S') v p)
    (ha : ∀ a u, ¬ Lv Z μ S a → H a = some u → noTbl u → H' a = some u ∧ ¬ Lv Z' μ' S' a) : RelD K Z' μ' S' H' (.exv x) v := by
  obtain ⟨a, cls, d, e, h1, h2, h3⟩ := r
  exact ⟨a, cls, d, e, (ha a _ h1 h2 trivial).2, (ha a _ h1 h2 trivial).1, h3.mono ha hr⟩
abbrev RelDs (K : Kw) (Z : Addr → Prop) (μ : List Addr) (S : Hs) (H : Hp) : List D → List V → Prop := Paired (RelD K Z μ S H)
theorem RelD.later {K : Kw} {Z : Addr → Prop} {μ μ' : List Addr} {S S' : Hs} {H H' : Hp} (l : Later μ S H μ' S' H') {d : D} {v : V} (h : RelD K Z μ S H d v) : RelD K Z μ' S' H' d v := by
  cases d with
  | dat p => exact Rp.later l h
  | ref n => obtain ⟨a, e, q⟩ := h; exact ⟨a, e, l.at q⟩
  | scr ns => obtain ⟨a, e, z, q⟩ := h; exact ⟨a, e, z, q.elim (fun q => .inl (q.later l)) .inr⟩
  | dct kvs =>
    obtain ⟨a, e, z, q⟩ := h
    obtain ⟨_, _, o, _, _, _, h1, _⟩ := id q
    have k := l.keep a _ h1 trivial fun y => z (.inl y)
    refine ⟨a, e, fun y => y.elim k.2 fun w => z (.inr w), q.mono (fun u hu => ?_) (fun v p r => Rp.later l r) fun p u r => Rp.later l r⟩
    rw [h1] at hu
    cases hu
    exact k.1
  | exv x => exact RelD.exvMono h (fun v p r => Rp.later l r) fun a u n e nt => ⟨(l.keep a u e nt fun z => n (.inl z)).1, fun z => z.elim (l.keep a u e nt fun z => n (.inl z)).2 fun y => n (.inr y)⟩
theorem RelDs.later {K : Kw} {Z : Addr → Prop} {μ μ' : List Addr} {S S' : Hs} {H H' : Hp} (l : Later μ S H μ' S' H') : ∀ {ds : List D} {vs : List V}, RelDs K Z μ S H ds vs → RelDs K Z μ' S' H' ds vs
  | _, _, .nil => .nil
  | _, _, .cons a b => .cons (RelD.later l a) (RelDs.later l b)

/-- what stands at a place -/
def ObR (K : Kw) (Z : Addr → Prop) (μ : List Addr) (S : Hs) (H : Hp) : Ob → Addr → Prop
  | .lst ds, a => ∃ vs, H a = some (.lst vs) ∧ ds.length ≤ sizeLine ∧ RelDs K Z μ S H ds vs
  | .dic kvs, a => ∃ qs : List (Key × V), H a = some (.dK qs) ∧ kvs.length ≤ sizeLine ∧ Paired (fun (p : Str × D) (q : Key × V) => q.1 = .inr p.1 ∧ RelD K Z μ S H p.2 q.2) kvs qs
  | .tab kvs, a => TabAt K H (Lv Z μ S) (RelD K Z μ S H) kvs a
  | .gone, _ => True
theorem ObR.mono {K : Kw} {Z Z' : Addr → Prop} {μ μ' : List Addr} {S S' : Hs} {H H' : Hp} {o : Ob} {a : Addr} (q : ObR K Z μ S H o a) (ha : ∀ u, H a = some u → H' a = some u) (hd : ∀ d v, RelD K Z μ S H d v → RelD K Z' μ' S' H' d v) : ObR K Z' μ' S' H' o a := by
  cases o with
  | lst ds => obtain ⟨vs, e, z, r⟩ := q; exact ⟨vs, ha _ e, z, Paired.mapP r fun d v y => hd d v y⟩
  | dic kvs => obtain ⟨qs, e, z, r⟩ := q; exact ⟨qs, ha _ e, z, Paired.mapP r fun p x y => ⟨y.1, hd _ _ y.2⟩⟩
  | tab kvs => exact TabAt.mono q ha (fun v p r => hd (.dat p) v r) hd
  | gone => trivial
theorem RelD.dctMono {K : Kw} {Z Z' : Addr → Prop} {μ μ' : List Addr} {S S' : Hs} {H H' : Hp} {kvs : List (PyData × PyData)} {v : V} (r : RelD K Z μ S H (.dct kvs) v) (hr : ∀ v p, Rp K.fr H (Lv Z μ S) v p → Rp K.fr H' (Lv Z' μ' S') v p)
    (ha : ∀ a u, ¬ Lv Z μ S a → H a = some u → noTbl u → H' a = some u ∧ ¬ Lv Z' μ' S' a) : RelD K Z' μ' S' H' (.dct kvs) v := by
  obtain ⟨a, e, z, q⟩ := r
  obtain ⟨_, _, o, _, _, _, h1, _⟩ := id q
  have k := ha a _ z h1 trivial
  refine ⟨a, e, k.2, q.mono (fun u hu => ?_) hr fun p u y => hr u p y⟩
  rw [h1] at hu
  cases hu
  exact k.1
/-- the tables stand, and their code objects; neither is a live place -/
def TbOk (T : List (Addr × Str)) (L : Addr → Prop) (H : Hp) : Prop := ∀ p ∈ T, ∃ ps : Array Value, H p.1 = some (.tbl ps) ∧ ¬ L p.1 ∧ TriplesOk ps.toList ∧ ∀ (pos : Pos) (cv : Value), codeAmong pos ps.toList = some cv → ∃ c, cv = .ref c ∧ H c = some (LamX.CodeO c p.2) ∧ ¬ L c
theorem TbOk.mono {T : List (Addr × Str)} {L L' : Addr → Prop} {H H' : Hp} (t : TbOk T L H) (h : ∀ a o, H a = some o → ¬ L a → H' a = some o ∧ ¬ L' a) : TbOk T L' H' := fun p hp => by
  obtain ⟨ps, h1, h2, h3, h4⟩ := t p hp
  refine ⟨ps, (h _ _ h1 h2).1, (h _ _ h1 h2).2, h3, fun pos cv hc => ?_⟩
  obtain ⟨c, e, q1, q2⟩ := h4 pos cv hc
  exact ⟨c, e, (h _ _ q1 q2).1, (h _ _ q1 q2).2⟩
structure RelH (K : Kw) (Z : Addr → Prop) (μ : List Addr) (S : Hs) (H : Hp) : Prop where
  tb : TbOk (tabsK K.fr) (Lv Z μ S) H
  zt : ∀ a, Z a → (∃ o, H a = some o) ∧ a ∉ μ
  len : μ.length = S.length
  nd : μ.Nodup
  tr : ∀ a ∈ μ, ∃ o, H a = some o
  ob : ∀ (n : Nat) o a, S[n]? = some o → μ[n]? = some a → ObR K Z μ S H o a
def RelE (K : Kw) (Z : Addr → Prop) (μ : List Addr) (S : Hs) (H : Hp) (ρ : En) (σ : St) : Prop :=
  ρ.length = σ.length ∧ ∀ (i : Nat) d, ρ[i]? = some (some d) → ∃ v, σ[i]? = some (some v) ∧ RelD K Z μ S H d v
theorem RelE.later {K : Kw} {Z : Addr → Prop} {μ μ' : List Addr} {S S' : Hs} {H H' : Hp} (l : Later μ S H μ' S' H') {ρ : En} {σ : St} (h : RelE K Z μ S H ρ σ) : RelE K Z μ' S' H' ρ σ :=
  ⟨h.1, fun i d e => let ⟨v, q, r⟩ := h.2 i d e; ⟨v, q, r.later l⟩⟩
theorem RelE.set {K : Kw} {Z : Addr → Prop} {μ : List Addr} {S : Hs} {H : Hp} {ρ : En} {σ : St} (h : RelE K Z μ S H ρ σ) (i : Nat) {d : D} {v : V} (r : RelD K Z μ S H d v) : RelE K Z μ S H (ρ.set i (some d)) (σ.set i (some v)) := by
  refine ⟨by simp [h.1], fun j e q => ?_⟩
  by_cases hj : i = j
  · subst hj
    by_cases hl : i < ρ.length
    · rw [List.getElem?_set_self hl] at q
      cases q
      exact ⟨v, List.getElem?_set_self (by rw [← h.1]; exact hl), r⟩
    · rw [List.getElem?_eq_none (by simpa using hl)] at q
      cases q
  · rw [List.getElem?_set_ne hj] at q ⊢
    exact h.2 j e q
theorem RelE.wipe {K : Kw} {Z : Addr → Prop} {μ : List Addr} {S : Hs} {H : Hp} {ρ : En} {σ : St} (h : RelE K Z μ S H ρ σ) : ∀ vs : List Nat, RelE K Z μ S H (wipeE ρ vs) (L2.wipe σ vs)
  | [] => h
  | v :: vs => by
    have ih := RelE.wipe h vs
    refine ⟨by simp [wipeE, L2.wipe, ih.1], fun j e q => ?_⟩
    unfold wipeE at q
    unfold L2.wipe
    by_cases hj : v = j
    · subst hj
      by_cases hl : v < (wipeE ρ vs).length
      · rw [List.getElem?_set_self hl] at q; cases q
      · rw [List.getElem?_eq_none (by simpa using hl)] at q; cases q
    · rw [List.getElem?_set_ne hj] at q ⊢
      exact ih.2 j e q

/-- a result is as wanted -/
def Out {α β : Type} (K : Kx) (Z : Addr → Prop) (Rl : List Addr → Hs → Hp → α → β → Prop) (μ : List Addr) (S : Hs) (H : Hp) (r : R α) (Q : β → Hp → Prop) : Prop :=
  match r with
  | .ok a S' => ∀ v μ' H', Later μ S H μ' S' H' → RelH K Z μ' S' H' → Rl μ' S' H' a v → Q v H'
  | .ex x S' => ∀ cls d μ' H', Later μ S H μ' S' H' → RelH K Z μ' S' H' → RelX K (Lv Z μ' S') H' x cls d → K.xk cls d H'
  | .no => False
section
variable {α β γ δ : Type} {K : Kx} {Z : Addr → Prop} {Rl : List Addr → Hs → Hp → α → β → Prop} {Rl2 : List Addr → Hs → Hp → γ → δ → Prop} {μ μ1 : List Addr} {S S1 : Hs} {H H1 : Hp}
theorem Out.later {r : R α} {Q : β → Hp → Prop} (h : Out K Z Rl μ S H r Q) (l : Later μ S H μ1 S1 H1) : Out K Z Rl μ1 S1 H1 r Q := by
  cases r with
  | ok a S' => exact fun v μ' H' l' => h v μ' H' (l.trans l')
  | ex x S' => exact fun cls d μ' H' l' => h cls d μ' H' (l.trans l')
  | no => exact h
theorem Out.bind {r : R α} {f : α → Hs → R γ} {Q : δ → Hp → Prop} {Q' : β → Hp → Prop} (h : Out K Z Rl2 μ S H (r.bind f) Q)
    (k : ∀ a S1 v μ1 H1, r = .ok a S1 → Later μ S H μ1 S1 H1 → RelH K Z μ1 S1 H1 → Rl μ1 S1 H1 a v → Out K Z Rl2 μ1 S1 H1 (f a S1) Q → Q' v H1) : Out K Z Rl μ S H r Q' := by
  cases r with
  | ok a S' => exact fun v μ' H' l rh rv => k a S' v μ' H' rfl l rh rv (Out.later (show Out K Z Rl2 μ S H (f a S') Q from h) l)
  | ex x S' => exact h
  | no => exact h
theorem Out.ok {a : α} {Q : β → Hp → Prop} {v : β} (h : Out K Z Rl μ S H (.ok a S) Q) (rh : RelH K Z μ S H) (rv : Rl μ S H a v) : Q v H := h v μ H (Later.refl _ _ _) rh rv
end

/-- readings by the core -/
def tE (K : Kx) (m : En → Hs → R D) : TE := fun σ H Q => ∃ Z μ ρ S, RelH K Z μ S H ∧ RelE K Z μ S H ρ σ ∧ Out K Z (RelD K Z) μ S H (m ρ S) Q
def tAs (K : Kx) (m : En → Hs → R (List D)) : TA := fun σ H Q => ∃ Z μ ρ S, RelH K Z μ S H ∧ RelE K Z μ S H ρ σ ∧ Out K Z (RelDs K Z) μ S H (m ρ S) Q
/-- a test: the value is a bool -/
def RelB : List Addr → Hs → Hp → Bool → Bool → Prop := fun _ _ _ a b => a = b
def tTs (K : Kx) (m : En → Hs → R Bool) : TT := fun σ H Q => ∃ Z μ ρ S, RelH K Z μ S H ∧ RelE K Z μ S H ρ σ ∧ Out K Z RelB μ S H (m ρ S) Q

/-- no exception is wanted -/
abbrev Kx.no (K : Kx) : Kx := ⟨K.toKw, fun _ _ _ => False⟩
theorem Out.wide {α β : Type} {K K' : Kx} {Z : Addr → Prop} {Rl : List Addr → Hs → Hp → α → β → Prop} {μ : List Addr} {S : Hs} {H : Hp} {r : R α} {Q : β → Hp → Prop} (e : K.toKw = K'.toKw) (hx : ∀ cls d H, K.xk cls d H → K'.xk cls d H) (h : Out K Z Rl μ S H r Q) : Out K' Z Rl μ S H r Q := by
  obtain ⟨k, x⟩ := K
  obtain ⟨k', x'⟩ := K'
  cases e
  cases r with
  | ok a S' => exact h
  | ex x S' => exact fun cls d μ' H' l rh rx => hx _ _ _ (h cls d μ' H' l rh rx)
  | no => exact h
theorem tE_no {K K' : Kx} (e : K.toKw = K'.toKw) {m : En → Hs → R D} {σ : St} {H : Hp} {Q : VK} (h : tE K.no m σ H Q) : tE K' m σ H Q := by
  obtain ⟨k, x⟩ := K
  obtain ⟨k', x'⟩ := K'
  cases e
  obtain ⟨Z, μ, ρ, S, rh, re, o⟩ := h
  exact ⟨Z, μ, ρ, S, rh, re, Out.wide (K := ⟨k, fun _ _ _ => False⟩) rfl (fun _ _ _ z => False.elim z) o⟩
theorem tT_no {K K' : Kx} (e : K.toKw = K'.toKw) {m : En → Hs → R Bool} {σ : St} {H : Hp} {Q : Bool → Hp → Prop} (h : tTs K.no m σ H Q) : tTs K' m σ H Q := by
  obtain ⟨k, x⟩ := K
  obtain ⟨k', x'⟩ := K'
  cases e
  obtain ⟨Z, μ, ρ, S, rh, re, o⟩ := h
  exact ⟨Z, μ, ρ, S, rh, re, Out.wide (K := ⟨k, fun _ _ _ => False⟩) rfl (fun _ _ _ z => False.elim z) o⟩
section
variable {X : Cx} {e : Expr}
theorem PE_wk {t t' : TE} (h : PE X e t) (w : ∀ σ H Q, t' σ H Q → t σ H Q) : PE X e t' := ⟨fun pins s σ H Q I hw => h.run pins s σ H Q I (w σ H Q hw)⟩
theorem PT_wk {t t' : TT} (h : PT X e t) (w : ∀ σ H Q, t' σ H Q → t σ H Q) : PT X e t' := ⟨fun pins s σ H Q I hw => h.run pins s σ H Q I (w σ H Q hw)⟩
theorem PA_wk {es : List Expr} {t t' : TA} (h : PA X es t) (w : ∀ σ H Q, t' σ H Q → t σ H Q) : PA X es t' := ⟨fun pos pins s σ H Q I hw => h.run pos pins s σ H Q I (w σ H Q hw)⟩
theorem PS_wk {st : Stmt} {t t' : TS} (h : PS X st t) (w : ∀ D σ H, t' D σ H → t D σ H) : PS X st t' := ⟨fun pins s σ H D I hw => h.run pins s σ H D I (w D σ H hw)⟩
theorem PSs_wk {st : List Stmt} {t t' : TS} (h : PSs X st t) (w : ∀ D σ H, t' D σ H → t D σ H) : PSs X st t' := ⟨fun pins s σ H D I hw => h.run pins s σ H D I (w D σ H hw)⟩
end

/-! ### new objects -/
section
variable {K : Kw} {Z : Addr → Prop} {μ : List Addr} {S : Hs} {H : Hp} {p : Addr}
theorem RelH.notin (rh : RelH K Z μ S H) (hp : H p = none) : p ∉ μ := fun h => by
  obtain ⟨o, e⟩ := rh.tr p h
  rw [hp] at e; cases e
theorem RelH.notlive (rh : RelH K Z μ S H) (hp : H p = none) : ¬ Lv Z μ S p := fun h => by
  rcases h with ⟨n, o, h1, _, _⟩ | h
  · exact rh.notin hp (List.mem_of_getElem? h1)
  · obtain ⟨⟨o, e⟩, _⟩ := rh.zt p h
    rw [hp] at e; cases e
theorem later_fresh (hp : H p = none) (o : HO) : Later μ S H μ S (upd H p o) :=
  ⟨⟨[], by simp⟩, fun a u h _ n => ⟨by rw [upd_ne (ne_of_none h hp)]; exact h, n⟩, st_upd H p o⟩
theorem ObR.later {μ' : List Addr} {S' : Hs} {H' : Hp} (l : Later μ S H μ' S' H') {o : Ob} {a : Addr} (h : ObR K Z μ S H o a) (e : ∀ u, H a = some u → H' a = some u) : ObR K Z μ' S' H' o a := by
  cases o with
  | lst ds => obtain ⟨vs, q, z, r⟩ := h; exact ⟨vs, e _ q, z, RelDs.later l r⟩
  | dic kvs => obtain ⟨qs, q, z, r⟩ := h; exact ⟨qs, e _ q, z, Paired.mapP r fun p x y => ⟨y.1, y.2.later l⟩⟩
  | tab kvs => exact TabAt.mono h e (fun v p r => Rp.later l r) fun d v r => r.later l
  | gone => trivial
theorem RelH.fresh (rh : RelH K Z μ S H) (hp : H p = none) (o : HO) : RelH K Z μ S (upd H p o) := by
  refine ⟨rh.tb.mono fun a u e n => ⟨by rw [upd_ne (ne_of_none e hp)]; exact e, n⟩, fun a ha => ?_, rh.len, rh.nd, fun a ha => ?_, fun n u a h1 h2 => ?_⟩
  · obtain ⟨⟨u, e⟩, n⟩ := rh.zt a ha
    exact ⟨⟨u, by rw [upd_ne (ne_of_none e hp)]; exact e⟩, n⟩
  · obtain ⟨u, e⟩ := rh.tr a ha
    exact ⟨u, by rw [upd_ne (ne_of_none e hp)]; exact e⟩
  · exact (rh.ob n u a h1 h2).later (later_fresh hp o) fun v e => by rw [upd_ne (ne_of_none e hp)]; exact e
theorem live_app {q : Addr} {o : Ob} (hl : μ.length = S.length) {a : Addr} : Live (μ ++ [q]) (S ++ [o]) a → Live μ S a ∨ a = q := by
  rintro ⟨n, u, h1, h2, h3⟩
  by_cases hn : n < μ.length
  · rw [List.getElem?_append_left hn] at h1
    rw [List.getElem?_append_left (by omega)] at h2
    exact .inl ⟨n, u, h1, h2, h3⟩
  · rw [List.getElem?_append_right (by omega)] at h1
    have : a ∈ [q] := List.mem_of_getElem? h1
    exact .inr (by simpa using this)
theorem later_alloc (rh : RelH K Z μ S H) (hp : H p = none) (o : Ob) (u : HO) : Later μ S H (μ ++ [p]) (S ++ [o]) (upd H p u) := by
  refine ⟨⟨[p], rfl⟩, fun a v h _ n => ?_, st_upd H p u⟩
  have ne : a ≠ p := ne_of_none h hp
  refine ⟨by rw [upd_ne ne]; exact h, fun hl => ?_⟩
  rcases live_app rh.len hl with z | z
  · exact n z
  · exact ne z
theorem RelH.alloc (rh : RelH K Z μ S H) (hp : H p = none) {o : Ob} {u : HO} (ho : ObR K Z (μ ++ [p]) (S ++ [o]) (upd H p u) o p) : RelH K Z (μ ++ [p]) (S ++ [o]) (upd H p u) := by
  have l := later_alloc rh hp o u
  refine ⟨rh.tb.mono fun a v e n => ?_, fun a ha => ?_, by simp [rh.len], ?_, fun a ha => ?_, fun n w a h1 h2 => ?_⟩
  · have ne : a ≠ p := ne_of_none e hp
    refine ⟨by rw [upd_ne ne]; exact e, fun z => ?_⟩
    rcases z with z | z
    · rcases live_app rh.len z with y | y
      · exact n (.inl y)
      · exact ne y
    · exact n (.inr z)
  · obtain ⟨⟨v, e⟩, n⟩ := rh.zt a ha
    refine ⟨⟨v, by rw [upd_ne (ne_of_none e hp)]; exact e⟩, fun hm => ?_⟩
    rcases List.mem_append.mp hm with z | z
    · exact n z
    · have e2 : a = p := by simpa using z
      subst e2
      rw [hp] at e; cases e
  · rw [List.nodup_append]
    refine ⟨rh.nd, by simp, fun a ha b hb => ?_⟩
    have e : b = p := by simpa using hb
    subst e
    rintro rfl
    exact rh.notin hp ha
  · rcases List.mem_append.mp ha with z | z
    · obtain ⟨v, e⟩ := rh.tr a z
      exact ⟨v, by rw [upd_ne (ne_of_none e hp)]; exact e⟩
    · have e : a = p := by simpa using z
      subst e
      exact ⟨u, upd_same⟩
  · by_cases hn : n < μ.length
    · rw [List.getElem?_append_left (by have := rh.len; omega)] at h1
      rw [List.getElem?_append_left hn] at h2
      exact (rh.ob n w a h1 h2).later l fun v e => by rw [upd_ne (ne_of_none e hp)]; exact e
    · have hl := rh.len
      rw [List.getElem?_append_right (by omega)] at h1 h2
      have e1 : w ∈ [o] := List.mem_of_getElem? h1
      have e2 : a ∈ [p] := List.mem_of_getElem? h2
      have e1' : w = o := by simpa using e1
      have e2' : a = p := by simpa using e2
      subst e1' e2'
      exact ho
end
theorem RpAll.of_dats {K : Kw} {Z : Addr → Prop} {μ : List Addr} {S : Hs} {H : Hp} : ∀ {ds : List D} {vs : List V} {ps : List PyData}, RelDs K Z μ S H ds vs → dats ds = some ps → RpAll K H (Lv Z μ S) vs ps
  | [], _, ps, r, e => by
    cases r
    cases e
    exact .nil
  | d :: ds, _, ps, r, e => by
    cases r with
    | cons a b =>
      cases d with
      | ref n => simp [dats] at e
      | scr ns => simp [dats] at e
      | dct kvs => simp [dats] at e
      | exv x => simp [dats] at e
      | dat p =>
        cases q : dats ds with
        | none => simp [dats, q] at e
        | some qs =>
          simp [dats, q] at e
          subst e
          exact .cons a (RpAll.of_dats b q)
theorem dats_length : ∀ {ds : List D} {ps : List PyData}, dats ds = some ps → ps.length = ds.length
  | [], ps, e => by cases e; rfl
  | d :: ds, ps, e => by
    cases d with
    | ref n => simp [dats] at e
    | scr ns => simp [dats] at e
    | dct kvs => simp [dats] at e
    | exv x => simp [dats] at e
    | dat p =>
      cases q : dats ds with
      | none => simp [dats, q] at e
      | some qs =>
        simp [dats, q] at e
        subst e
        simp [dats_length q]
theorem dats_map (ps : List PyData) : dats (ps.map .dat) = some ps := by
  induction ps with
  | nil => rfl
  | cons p ps ih => simp [dats, ih]
theorem RpAll.length {K : PySem.W.Frag} {H : Hp} {L : Addr → Prop} : ∀ {vs : List V} {ps : List PyData}, RpAll K H L vs ps → vs.length = ps.length
  | _, _, .nil => rfl
  | _, _, .cons _ b => by simp [RpAll.length b]
theorem RelDs.length {K : Kw} {Z : Addr → Prop} {μ : List Addr} {S : Hs} {H : Hp} {ds : List D} {vs : List V} (r : RelDs K Z μ S H ds vs) : ds.length = vs.length := Paired.length r
/-- a new tuple, a new list that nobody changes -/
theorem rp_tup {K : Kw} {Z : Addr → Prop} {μ : List Addr} {S : Hs} {H : Hp} {p : Addr} {vs : List V} {ps : List PyData} (rh : RelH K Z μ S H) (hp : H p = none) (r : RpAll K H (Lv Z μ S) vs ps) (hz : ps.length ≤ sizeLine) : RelD K Z μ S (upd H p (.tup vs)) (dT ps) (.ref p) :=
  Rp.tup (.inl ⟨.inl upd_same, rh.notlive hp⟩) hz (RpAll.later (later_fresh hp _) r)
theorem rp_lst {K : Kw} {Z : Addr → Prop} {μ : List Addr} {S : Hs} {H : Hp} {p : Addr} {vs : List V} {ps : List PyData} (rh : RelH K Z μ S H) (hp : H p = none) (r : RpAll K H (Lv Z μ S) vs ps) (hz : ps.length ≤ sizeLine) : RelD K Z μ S (upd H p (.lst vs)) (dL ps) (.ref p) :=
  Rp.lst ⟨.inl upd_same, rh.notlive hp⟩ hz (RpAll.later (later_fresh hp _) r)
end L2.LC

/-! LC: each construct of the core over the layer's rules. -/
namespace L2.LC
open PySem PySem.Spec PyProof.Rows
section
variable {X : Cx} {C : Calls}
/-! ### names, constants -/
theorem sE_var {i : Nat} {x : Str} {pos : Pos} (hN : X.N[i]? = some x) (hv : Vis X.env.scope x) (hd : (x == ("__debug__" : Str)) = false) (hcd : (x == ("__classdict__" : Str)) = false) : PE X (.Name x pos) (tE X.kw (evE C (.var i))) := by
  refine PE_wk (pe_var hN hv hd hcd) fun σ H Q ⟨Z, μ, ρ, S, rh, re, o⟩ => ?_
  simp only [evE] at o
  split at o
  · rename_i d e
    obtain ⟨v, q, r⟩ := re.2 i d e
    exact ⟨v, q, o.ok rh r⟩
  · exact o.elim
/-- a constant of the written text -/
def cstOk : Const → PyData → Bool
  | .none, .none => true
  | .bool a, .bool b => a == b
  | .int a, .int b => a == b
  | .str a, .str b => decide (a = b)
  | _, _ => false
theorem sE_cst {c : Const} {p : PyData} {j : Nat} {pos : Pos} (h : cstOk c p = true) : PE X (.Constant c j pos) (tE X.kw (evE C (.cst p))) := by
  cases c <;> cases p <;> simp [cstOk] at h
  · exact PE_wk pe_non fun σ H Q ⟨Z, μ, ρ, S, rh, re, o⟩ => o.ok (v := V.non) rh Rp.non
  · subst h; exact PE_wk pe_bl fun σ H Q ⟨Z, μ, ρ, S, rh, re, o⟩ => o.ok rh (Rp.bl _)
  · subst h; exact PE_wk pe_int fun σ H Q ⟨Z, μ, ρ, S, rh, re, o⟩ => o.ok rh (Rp.int _)
  · subst h; exact PE_wk pe_str fun σ H Q ⟨Z, μ, ρ, S, rh, re, o⟩ => o.ok rh (Rp.str _)
/-- a constant of the module's top -/
abbrev RpK (K : PySem.W.Frag) : V → PyData → Prop := Rp K (fun _ => none) (fun _ => False)
mutual
theorem Rp.up {K : PySem.W.Frag} {H : Hp} {L : Addr → Prop} : ∀ {v : V} {p : PyData}, RpK K v p → Rp K H L v p
  | _, _, .non => .non
  | _, _, .bl b => .bl b
  | _, _, .int i => .int i
  | _, _, .str x => .str x
  | _, _, .lst h z r => by
    obtain ⟨h, _⟩ := h
    rcases h with h | ⟨o, h⟩ <;> cases h
  | _, _, .tup h z r => by
    rcases h with ⟨h, _⟩ | h
    · rcases h with h | ⟨o, h⟩ <;> cases h
    · exact .tup (.inr h) z (RpAll.up r)
theorem RpAll.up {K : PySem.W.Frag} {H : Hp} {L : Addr → Prop} : ∀ {vs : List V} {ps : List PyData}, RpAll K (fun _ => none) (fun _ => False) vs ps → RpAll K H L vs ps
  | _, _, .nil => .nil
  | _, _, .cons a b => .cons (Rp.up a) (RpAll.up b)
end
theorem sE_glob {x : Str} {v : V} {u : Value} {p : PyData} {pos : Pos} (hg : Gl X x) (hm : X.mg x = some u) (r : RelV v u) (rp : RpK X.K v p) (hd : (x == ("__debug__" : Str)) = false) : PE X (.Name x pos) (tE X.kw (evE C (.cst p))) :=
  PE_wk (pe_glob hg hm r hd) fun σ H Q ⟨Z, μ, ρ, S, rh, re, o⟩ => o.ok rh (Rp.up rp)

/-! ### argument lists, displays -/
def notStar : Expr → Bool
  | .Starred _ _ => false
  | _ => true
theorem star_cons {e : Expr} {es : List Expr} {env : Env} (h : notStar e = true) : starEach (e :: es) env = (false, eval e env) :: starEach es env := by
  cases e <;> first | rfl | (simp [notStar] at h)
theorem star_none {env : Env} : ∀ {es : List Expr}, (es.all notStar) = true → (starEach es env).any (·.1) = false
  | [], _ => rfl
  | e :: es, h => by
    simp only [List.all_cons, Bool.and_eq_true] at h
    rw [star_cons h.1]
    simp only [List.any_cons, Bool.false_or]
    exact star_none h.2
theorem sA_nil : PA X [] (tAs X.kw (evEs C .nil)) := PA_wk pa_nil fun σ H Q ⟨Z, μ, ρ, S, rh, re, o⟩ => Out.ok (v := []) o rh Paired.nil
theorem sA_cons {e : Expr} {es : List Expr} {c : CE} {cs : CEs} (h : PE X e (tE X.kw (evE C c))) (hs : PA X es (tAs X.kw (evEs C cs))) (hn : notStar e = true) : PA X (e :: es) (tAs X.kw (evEs C (.cons c cs))) := by
  refine PA_wk (pa_cons h hs (star_cons hn)) fun σ H Q ⟨Z, μ, ρ, S, rh, re, o⟩ => ?_
  simp only [evEs] at o
  refine ⟨Z, μ, ρ, S, rh, re, o.bind fun d S1 v μ1 H1 _ l1 rh1 r1 o1 => ?_⟩
  refine ⟨Z, μ1, ρ, S1, rh1, re.later l1, o1.bind fun ds S2 vs μ2 H2 _ l2 rh2 r2 o2 => ?_⟩
  exact o2.ok rh2 (Paired.cons (r1.later l2) r2)
def CEs.len : CEs → Nat
  | .nil => 0
  | .cons _ es => es.len + 1
theorem evEs_len : ∀ {es : CEs} {ρ : En} {h h' : Hs} {ds : List D}, evEs C es ρ h = .ok ds h' → ds.length = es.len
  | .nil, _, _, _, _, e => by cases e; rfl
  | .cons c cs, ρ, h, h', ds, e => by
    simp only [evEs] at e
    cases q : evE C c ρ h with
    | ok d h1 =>
      rw [q] at e
      simp only [R.bind_ok] at e
      cases q2 : evEs C cs ρ h1 with
      | ok ds2 h2 =>
        rw [q2] at e
        simp only [R.bind_ok] at e
        cases e
        simp [CEs.len, evEs_len q2]
      | ex x h2 => rw [q2] at e; cases e
      | no => rw [q2] at e; cases e
    | ex x h1 => rw [q] at e; cases e
    | no => rw [q] at e; cases e
theorem sE_tup {es : List Expr} {cs : CEs} {k : Nat} {pos : Pos} (h : PA X es (tAs X.kw (evEs C cs))) (hz : cs.len ≤ 1000) : PE X (.Tuple es k pos) (tE X.kw (evE C (.tup cs))) := by
  refine PE_wk (pe_tup h) fun σ H Q ⟨Z, μ, ρ, S, rh, re, o⟩ => ?_
  simp only [evE] at o
  refine ⟨Z, μ, ρ, S, rh, re, o.bind fun ds S1 vs μ1 H1 e1 l1 rh1 r1 o1 => ?_⟩
  have hl : vs.length ≤ sizeLine := by rw [← r1.length, evEs_len e1]; exact Nat.le_of_lt (small1000 hz)
  refine ⟨hl, fun p hp => ?_⟩
  cases q : dats ds with
  | none => rw [q] at o1; exact o1.elim
  | some ps =>
    rw [q] at o1
    refine o1 (.ref p) μ1 _ (later_fresh hp _) (rh1.fresh hp _) (rp_tup rh1 hp (RpAll.of_dats r1 q) ?_)
    rw [dats_length q, r1.length]; exact hl
theorem sE_lst {es : List Expr} {cs : CEs} {pos : Pos} (h : PA X es (tAs X.kw (evEs C cs))) (hz : cs.len ≤ 1000) : PE X (.List es pos) (tE X.kw (evE C (.lst cs))) := by
  refine PE_wk (pe_lst h) fun σ H Q ⟨Z, μ, ρ, S, rh, re, o⟩ => ?_
  simp only [evE] at o
  refine ⟨Z, μ, ρ, S, rh, re, o.bind fun ds S1 vs μ1 H1 e1 l1 rh1 r1 o1 => ?_⟩
  have hl : vs.length ≤ sizeLine := by rw [← r1.length, evEs_len e1]; exact Nat.le_of_lt (small1000 hz)
  refine ⟨hl, fun p hp => ?_⟩
  cases q : dats ds with
  | none => rw [q] at o1; exact o1.elim
  | some ps =>
    rw [q] at o1
    refine o1 (.ref p) μ1 _ (later_fresh hp _) (rh1.fresh hp _) (rp_lst rh1 hp (RpAll.of_dats r1 q) ?_)
    rw [dats_length q, r1.length]; exact hl
theorem sE_mk {es : List Expr} {cs : CEs} {pos : Pos} (h : PA X es (tAs X.kw (evEs C cs))) (hz : cs.len ≤ 1000) : PE X (.List es pos) (tE X.kw (evE C (.mk cs))) := by
  refine PE_wk (pe_lst h) fun σ H Q ⟨Z, μ, ρ, S, rh, re, o⟩ => ?_
  simp only [evE] at o
  refine ⟨Z, μ, ρ, S, rh, re, o.bind fun ds S1 vs μ1 H1 e1 l1 rh1 r1 o1 => ?_⟩
  have hl : vs.length ≤ sizeLine := by rw [← r1.length, evEs_len e1]; exact Nat.le_of_lt (small1000 hz)
  refine ⟨hl, fun p hp => ?_⟩
  have l := later_alloc rh1 hp (.lst ds) (.lst vs)
  refine o1 (.ref p) (μ1 ++ [p]) _ l (rh1.alloc hp ⟨vs, upd_same, by rw [r1.length]; exact hl, RelDs.later l r1⟩) ⟨p, rfl, ?_⟩
  rw [← rh1.len]
  simp

/-! ### operators by values -/
/-- f gives what F gives of the data -/
def DOp (X : Cx) (f : Value → Value → Sem Value) (F : Hs → D → D → Option D) : Prop :=
  OpR X f fun x y H Q => ∃ Z μ S dx dy d, RelH X.kw Z μ S H ∧ RelD X.kw Z μ S H dx x ∧ RelD X.kw Z μ S H dy y ∧ F S dx dy = some d ∧ ∀ v μ' H', Later μ S H μ' S H' → RelH X.kw Z μ' S H' → RelD X.kw Z μ' S H' d v → Q v H'
theorem OpR_wk {f : Value → Value → Sem Value} {r r' : R2} (h : OpR X f r) (w : ∀ x y H Q, r' x y H Q → r x y H Q) : OpR X f r' := fun pins s σ H x y v u Q I rx ry q => h pins s σ H x y v u Q I rx ry (w x y H Q q)
theorem two {ta tb : TE} {a b : CE} {F : Hs → D → D → Option D} {σ : St} {H : Hp} {Q : VK}
    (o : tE X.kw (fun ρ h => (evE C a ρ h).bind fun x h1 => (evE C b ρ h1).bind fun y h2 => R.of (F h2 x y) h2) σ H Q) :
    tOp (fun x y H Q => ∃ Z μ S dx dy d, RelH X.kw Z μ S H ∧ RelD X.kw Z μ S H dx x ∧ RelD X.kw Z μ S H dy y ∧ F S dx dy = some d ∧ ∀ v μ' H', Later μ S H μ' S H' → RelH X.kw Z μ' S H' → RelD X.kw Z μ' S H' d v → Q v H') (tE X.kw (evE C a)) (tE X.kw (evE C b)) σ H Q := by
  obtain ⟨Z, μ, ρ, S, rh, re, o⟩ := o
  refine ⟨Z, μ, ρ, S, rh, re, o.bind fun dx S1 x μ1 H1 _ l1 rh1 r1 o1 => ?_⟩
  refine ⟨Z, μ1, ρ, S1, rh1, re.later l1, o1.bind fun dy S2 y μ2 H2 _ l2 rh2 r2 o2 => ?_⟩
  cases q : F S2 dx dy with
  | none => rw [q] at o2; exact o2.elim
  | some d =>
    rw [q] at o2
    exact ⟨Z, μ2, S2, dx, dy, d, rh2, r1.later l2, r2, q, o2⟩
theorem sE_bin {op : Operator} {o : BOp} {a b : Expr} {ca cb : CE} {pos : Pos} (ho : DOp X (binaryOp op) (fun _ x y => binD o x y)) (ha : PE X a (tE X.kw (evE C ca))) (hb : PE X b (tE X.kw (evE C cb))) : PE X (.BinOp a op b pos) (tE X.kw (evE C (.bin o ca cb))) := by
  refine PE_wk (pe_op ho ha hb) fun σ H Q h => two (ta := tE X.kw (evE C ca)) (tb := tE X.kw (evE C cb)) (F := fun _ x y => binD o x y) ?_
  obtain ⟨Z, μ, ρ, S, rh, re, h⟩ := h
  simp only [evE] at h
  exact ⟨Z, μ, ρ, S, rh, re, h⟩
def cmpF (o : COp) : Hs → D → D → Option D := fun h x y => (cmpD h o x y).map dB
theorem sE_cmp {op : CmpOp} {o : COp} {a b : Expr} {ca cb : CE} {pos : Pos} (ho : DOp X (compareOp op) (cmpF o)) (hm : behindInMarks op b = false) (ha : PE X a (tE X.kw (evE C ca))) (hb : PE X b (tE X.kw (evE C cb))) : PE X (.Compare a [op] [b] pos) (tE X.kw (evE C (.cmp o ca cb))) := by
  refine PE_wk (pe_cmpR ho ha hb hm) fun σ H Q h => two (ta := tE X.kw (evE C ca)) (tb := tE X.kw (evE C cb)) (F := cmpF o) ?_
  obtain ⟨Z, μ, ρ, S, rh, re, h⟩ := h
  simp only [evE] at h
  exact ⟨Z, μ, ρ, S, rh, re, h⟩
/-! ### tests -/
def evB (C : Calls) (c : CE) : En → Hs → R Bool := fun ρ h => asB (evE C c ρ h)
theorem Out.asB {K : Kx} {Z : Addr → Prop} {μ : List Addr} {S : Hs} {H : Hp} {r : R D} {Q : Bool → Hp → Prop} (o : Out K Z RelB μ S H (asB r) Q) : Out K Z (RelD K Z) μ S H r (fun x H1 => ∃ c, x = .bl c ∧ Q c H1) := by
  refine Out.bind (Rl2 := RelB) (f := fun d h => R.of (asBool d) h) o fun d S1 v μ1 H1 _ l1 rh1 r1 o1 => ?_
  cases d with
  | ref n => exact o1.elim
  | scr ns => exact o1.elim
  | dct kvs => exact o1.elim
  | exv x => exact o1.elim
  | dat p =>
    cases p with
    | bool b =>
      cases r1
      exact ⟨b, rfl, Out.ok (Rl := RelB) o1 rh1 rfl⟩
    | _ => exact o1.elim
theorem tE_of_tT {c : CE} {σ : St} {H : Hp} {Q : Bool → Hp → Prop} (h : tTs X.kw (evB C c) σ H Q) : tE X.kw (evE C c) σ H (fun x H1 => ∃ c, x = .bl c ∧ Q c H1) := by
  obtain ⟨Z, μ, ρ, S, rh, re, o⟩ := h
  exact ⟨Z, μ, ρ, S, rh, re, Out.asB o⟩
theorem sT_val {e : Expr} {c : CE} (h : PE X e (tE X.kw (evE C c))) (he : ∀ whole, isTrue e X.env whole = (do let v ← whole; standAt e.pos; holding [v] (truthy v))) : PT X e (tTs X.kw (evB C c)) :=
  PT_wk (pt_val h he) fun σ H Q h => tE_of_tT h
theorem sT_cmp {op : CmpOp} {o : COp} {a b : Expr} {ca cb : CE} {pos : Pos} (ho : DOp X (compareOp op) (cmpF o)) (hm : behindInMarks op b = false) (ha : PE X a (tE X.kw (evE C ca))) (hb : PE X b (tE X.kw (evE C cb))) : PT X (.Compare a [op] [b] pos) (tTs X.kw (evB C (.cmp o ca cb))) := by
  refine PT_wk (pt_cmpR ho ha hb hm) fun σ H Q h => two (ta := tE X.kw (evE C ca)) (tb := tE X.kw (evE C cb)) (F := cmpF o) ?_
  obtain ⟨Z, μ, ρ, S, rh, re, h⟩ := tE_of_tT h
  simp only [evE] at h
  exact ⟨Z, μ, ρ, S, rh, re, h⟩
theorem sT_not {a : Expr} {ca : CE} {pos : Pos} (ha : PT X a (tTs X.kw (evB C ca))) : PT X (.UnaryOp .Not a pos) (tTs X.kw (evB C (.nt ca))) := by
  refine PT_wk (pt_not ha) fun σ H Q ⟨Z, μ, ρ, S, rh, re, o⟩ => ?_
  simp only [evB, evE, LC.asB, R.bind_assoc, R.bind_ok, asBool, R.of_some] at o
  refine ⟨Z, μ, ρ, S, rh, re, ?_⟩
  simp only [evB, LC.asB]
  rw [← R.bind_assoc] at o
  exact o.bind (Rl := RelB) fun t S1 v μ1 H1 _ l1 rh1 r1 o1 => by
    cases r1
    exact Out.ok (Rl := RelB) o1 rh1 rfl
theorem sE_not {a : Expr} {ca : CE} {pos : Pos} (ha : PE X a (tE X.kw (evE C ca))) : PE X (.UnaryOp .Not a pos) (tE X.kw (evE C (.nt ca))) := by
  refine PE_wk (pe_not ha) fun σ H Q ⟨Z, μ, ρ, S, rh, re, o⟩ => ?_
  simp only [evE] at o
  refine ⟨Z, μ, ρ, S, rh, re, Out.asB ?_⟩
  exact o.bind (Rl := RelB) fun t S1 v μ1 H1 _ l1 rh1 r1 o1 => by
    cases r1
    exact o1.ok rh1 (Rp.bl _)
/-! and, or -/
theorem tE_and {a b : CE} {σ : St} {H : Hp} {Q : VK} (h : tE X.kw (evE C (.and a b)) σ H Q) : tAndV (tE X.kw (evE C a)) (tE X.kw (evE C b)) σ H Q := by
  obtain ⟨Z, μ, ρ, S, rh, re, o⟩ := h
  simp only [evE] at o
  refine ⟨Z, μ, ρ, S, rh, re, Out.asB (Q := fun t H1 => if t = true then tE X.kw (evE C b) σ H1 Q else Q (.bl false) H1) ?_⟩
  refine o.bind (Rl := RelB) fun t S1 v μ1 H1 _ l1 rh1 r1 o1 => ?_
  cases r1
  cases t with
  | true => simp only [if_true] at o1 ⊢; exact ⟨Z, μ1, ρ, S1, rh1, re.later l1, o1⟩
  | false => simp only [Bool.false_eq_true, if_false] at o1 ⊢; exact o1.ok rh1 (Rp.bl _)
theorem tE_or {a b : CE} {σ : St} {H : Hp} {Q : VK} (h : tE X.kw (evE C (.or a b)) σ H Q) : tOrV (tE X.kw (evE C a)) (tE X.kw (evE C b)) σ H Q := by
  obtain ⟨Z, μ, ρ, S, rh, re, o⟩ := h
  simp only [evE] at o
  refine ⟨Z, μ, ρ, S, rh, re, Out.asB (Q := fun t H1 => if t = true then Q (.bl true) H1 else tE X.kw (evE C b) σ H1 Q) ?_⟩
  refine o.bind (Rl := RelB) fun t S1 v μ1 H1 _ l1 rh1 r1 o1 => ?_
  cases r1
  cases t with
  | false => simp only [Bool.false_eq_true, if_false] at o1 ⊢; exact ⟨Z, μ1, ρ, S1, rh1, re.later l1, o1⟩
  | true => simp only [if_true] at o1 ⊢; exact o1.ok rh1 (Rp.bl _)
theorem tT_and {a b : CE} {σ : St} {H : Hp} {Q : Bool → Hp → Prop} (h : tTs X.kw (evB C (.and a b)) σ H Q) : tAnd (tTs X.kw (evB C a)) (tTs X.kw (evB C b)) σ H Q := by
  obtain ⟨Z, μ, ρ, S, rh, re, o⟩ := h
  simp only [evB, evE, LC.asB, R.bind_assoc] at o
  rw [← R.bind_assoc (evE C a ρ S) (fun d h => R.of (asBool d) h)] at o
  refine ⟨Z, μ, ρ, S, rh, re, o.bind (Rl := RelB) fun t S1 v μ1 H1 _ l1 rh1 r1 o1 => ?_⟩
  cases r1
  cases t with
  | true => simp only [if_true] at o1 ⊢; exact ⟨Z, μ1, ρ, S1, rh1, re.later l1, o1⟩
  | false => simp only [Bool.false_eq_true, if_false, R.bind_ok, asBool, R.of_some] at o1 ⊢; exact Out.ok (Rl := RelB) o1 rh1 rfl
theorem tT_or {a b : CE} {σ : St} {H : Hp} {Q : Bool → Hp → Prop} (h : tTs X.kw (evB C (.or a b)) σ H Q) : tOr (tTs X.kw (evB C a)) (tTs X.kw (evB C b)) σ H Q := by
  obtain ⟨Z, μ, ρ, S, rh, re, o⟩ := h
  simp only [evB, evE, LC.asB, R.bind_assoc] at o
  rw [← R.bind_assoc (evE C a ρ S) (fun d h => R.of (asBool d) h)] at o
  refine ⟨Z, μ, ρ, S, rh, re, o.bind (Rl := RelB) fun t S1 v μ1 H1 _ l1 rh1 r1 o1 => ?_⟩
  cases r1
  cases t with
  | false => simp only [Bool.false_eq_true, if_false] at o1 ⊢; exact ⟨Z, μ1, ρ, S1, rh1, re.later l1, o1⟩
  | true => simp only [if_true, R.bind_ok, asBool, R.of_some] at o1 ⊢; exact Out.ok (Rl := RelB) o1 rh1 rfl
theorem sE_ite {c a b : Expr} {cc ca cb : CE} {pos : Pos} (hc : PT X c (tTs X.kw (evB C cc))) (ha : PE X a (tE X.kw (evE C ca))) (hb : PE X b (tE X.kw (evE C cb))) : PE X (.IfExp c a b pos) (tE X.kw (evE C (.ite cc ca cb))) := by
  refine PE_wk (pe_ifExp hc ha hb) fun σ H Q ⟨Z, μ, ρ, S, rh, re, o⟩ => ?_
  simp only [evE] at o
  refine ⟨Z, μ, ρ, S, rh, re, o.bind (Rl := RelB) fun t S1 v μ1 H1 _ l1 rh1 r1 o1 => ?_⟩
  cases r1
  cases t with
  | true => simp only [if_true] at o1 ⊢; exact ⟨Z, μ1, ρ, S1, rh1, re.later l1, o1⟩
  | false => simp only [Bool.false_eq_true, if_false] at o1 ⊢; exact ⟨Z, μ1, ρ, S1, rh1, re.later l1, o1⟩
end
end L2.LC

/-! LC: dicts with tuples as keys. -/
namespace L2.LC
open PySem PySem.Spec PyProof.Rows
mutual
theorem nk_reads {h : Heap} : ∀ {u : Value} {p : PyData} {as : List Addr}, Reads h u p as → nkOk p = true → NestedIs h (nk p) u
  | _, _, _, .none, _ => .none
  | _, _, _, .bool b, e => by simp [nkOk] at e
  | _, _, _, .int i t, _ => .int i t
  | _, _, _, .str x t, _ => .text x t
  | _, _, _, .list _ _ _ _, e => by simp [nkOk] at e
  | _, _, _, .tuple h1 h2 h3 h4, e => .tup h1 h2 h3 (nks_reads h4 (by simpa [nkOk] using e))
  | _, _, _, .dict _ _ _ _ _, e => by simp [nkOk] at e
theorem nks_reads {h : Heap} : ∀ {us : List Value} {ps : List PyData} {as : List Addr}, ReadsAll h us ps as → nksOk ps = true → NestedAll h (nks ps) us
  | _, _, _, .nil, _ => .nil
  | _, _, _, .cons a b, e => by
    simp only [nksOk, Bool.and_eq_true] at e
    exact .cons (nk_reads a e.1) (nks_reads b e.2)
end
mutual
theorem nk_depth : ∀ p : PyData, nkOk p = true → (nk p).depth = p.depth
  | .none, _ => by simp [nk, NestedKey.depth, PyData.depth]
  | .bool _, e => by simp [nkOk] at e
  | .int _, _ => by simp [nk, NestedKey.depth, PyData.depth]
  | .str _, _ => by simp [nk, NestedKey.depth, PyData.depth]
  | .list _, e => by simp [nkOk] at e
  | .tuple xs, e => by simp [nk, NestedKey.depth, PyData.depth, nks_depth xs (by simpa [nkOk] using e)]
  | .dict _, e => by simp [nkOk] at e
theorem nks_depth : ∀ ps : List PyData, nksOk ps = true → NestedKey.depthAll (nks ps) = PyData.depthAll ps
  | [], _ => by simp [nks, NestedKey.depthAll, PyData.depthAll]
  | p :: ps, e => by
    simp only [nksOk, Bool.and_eq_true] at e
    simp [nks, NestedKey.depthAll, PyData.depthAll, nk_depth p e.1, nks_depth ps e.2]
end
mutual
theorem nk_beq : ∀ p q : PyData, nkOk p = true → nkOk q = true → NestedKey.beq (nk p) (nk q) = peq p q
  | .none, q, _, e => by cases q <;> simp [nkOk] at e <;> simp [nk, NestedKey.beq, peq]
  | .int i, q, _, e => by
    cases q <;> simp [nkOk] at e <;> simp [nk, NestedKey.beq, peq]
    rename_i j
    by_cases h : i = j
    · simp [h]
    · simp [h]
  | .str x, q, _, e => by cases q <;> simp [nkOk] at e <;> simp [nk, NestedKey.beq, peq]
  | .tuple xs, q, d, e => by
    cases q with
    | tuple ys =>
      simp only [nkOk] at d e
      simp [nk, NestedKey.beq, peq, nks_beq xs ys d e]
    | none => simp [nk, NestedKey.beq, peq]
    | int i => simp [nk, NestedKey.beq, peq]
    | str x => simp [nk, NestedKey.beq, peq]
    | bool b => simp [nkOk] at e
    | list b => simp [nkOk] at e
    | dict b => simp [nkOk] at e
  | .bool _, _, d, _ => by simp [nkOk] at d
  | .list _, _, d, _ => by simp [nkOk] at d
  | .dict _, _, d, _ => by simp [nkOk] at d
theorem nks_beq : ∀ ps qs : List PyData, nksOk ps = true → nksOk qs = true → NestedKey.beqAll (nks ps) (nks qs) = peqs ps qs
  | [], [], _, _ => by simp [nks, NestedKey.beqAll, peqs]
  | [], _ :: _, _, _ => by simp [nks, NestedKey.beqAll, peqs]
  | _ :: _, [], _, _ => by simp [nks, NestedKey.beqAll, peqs]
  | p :: ps, q :: qs, d, e => by
    simp only [nksOk, Bool.and_eq_true] at d e
    simp [nks, NestedKey.beqAll, peqs, nk_beq p q d.1 e.1, nks_beq ps qs d.2 e.2]
end
theorem keyOk_nk {p : PyData} (h : keyOk p = true) : nkOk p = true ∧ p.depth ≤ 8 ∧ ∃ xs, p = .tuple xs := by
  cases p <;> simp only [keyOk, Bool.false_eq_true, Bool.and_eq_true, decide_eq_true_eq] at h
  exact ⟨by simpa [nkOk] using h.1, h.2, _, rfl⟩
theorem key_eq {p q : PyData} (hp : keyOk p = true) (hq : keyOk q = true) : decide (nk p = nk q) = peq p q := by
  rw [NestedKey.decide_eq, nk_beq p q (keyOk_nk hp).1 (keyOk_nk hq).1]
section
variable {X : Cx} {δ : Type} {L : Addr → Prop} {Vr : δ → V → Prop} {pins : List (Addr × Obj)} {σ : St} {H : Hp} {s : Shared} {a : Addr} {kvs : List (PyData × δ)}
theorem key_at (I : Inv X pins σ H s) {p : PyData} {v : V} {u : Value} (r : Rp X.K H L v p) (ru : RelV v u) (hk : keyOk p = true) : ∃ b, u = .ref b ∧ v = .ref b ∧ (nestedKind X.prog X.w).is s.heap (nk p) b := by
  obtain ⟨h1, h2, xs, rfl⟩ := keyOk_nk hk
  obtain ⟨as, rd⟩ := Dp.reads I _ v u r.dp ru
  have n := nk_reads rd h1
  cases r with
  | tup f z q =>
    cases ru
    exact ⟨_, rfl, rfl, n, by rw [nk_depth _ h1]; exact h2⟩
theorem paired_mem {α β : Type} {F : α → β → Prop} : ∀ {l₁ : List α} {l₂ : List β} {x : β}, Paired F l₁ l₂ → x ∈ l₂ → ∃ y, y ∈ l₁ ∧ F y x
  | _, _, x, .nil, h => by cases h
  | _, _, x, .cons r t, h => by
    rcases List.mem_cons.mp h with e | h
    · subst e; exact ⟨_, List.mem_cons_self .., r⟩
    · obtain ⟨y, m, q⟩ := paired_mem t h
      exact ⟨y, List.mem_cons_of_mem _ m, q⟩
/-- the dict in the model's heap -/
theorem TabAt.dict (I : Inv X pins σ H s) (h : TabAt X.kw H L Vr kvs a) : kvs.length ≤ sizeLine ∧ (a == sysModules) = false ∧ ∃ xs, s.heap.DictOfH (nestedKind X.prog X.w) a xs ∧ Paired (EntR X.kw H L Vr) kvs xs := by
  obtain ⟨z, m, o, es, ep, xs, h1, h2, h3, h4, h5, h6⟩ := h
  have e := (I.hok a _ h1).1
  refine ⟨z, m, xs, ⟨o, es, ep, e, h2, h3, ?_, fun x hx => ?_, h5⟩, h6⟩
  · rw [h4]; rfl
  · obtain ⟨p, hp, k1, k2, k3, v, k4, k5⟩ := paired_mem h6 hx
    obtain ⟨b, e1, e2, q⟩ := key_at I k3 rfl k1
    cases e1
    rw [k2]
    exact q
theorem tab_at {p : PyData} (hp : keyOk p = true) : ∀ {kvs : List (PyData × δ)} {xs : List (NestedKey × Addr × Value)}, Paired (EntR X.kw H L Vr) kvs xs →
    (tabGet kvs p = none ∧ atKey xs (nk p) = none) ∨ ∃ d v b u, tabGet kvs p = some d ∧ atKey xs (nk p) = some (b, u) ∧ RelV v u ∧ Vr d v
  | _, _, .nil => .inl ⟨rfl, rfl⟩
  | _, _, .cons (a := q) (b := x) r t => by
    obtain ⟨k1, k2, k3, v, k4, k5⟩ := r
    obtain ⟨qp, qd⟩ := q
    obtain ⟨x1, x2, x3⟩ := x
    simp only at k1 k2 k3 k4 k5
    subst k2
    have e := key_eq k1 hp
    cases hq : peq qp p with
    | true =>
      rw [hq] at e
      refine .inr ⟨qd, v, x2, x3, by simp [tabGet, hq], ?_, k4, k5⟩
      simp [atKey, List.find?_cons, e]
    | false =>
      rw [hq] at e
      rcases tab_at hp t with ⟨h1, h2⟩ | ⟨d, w, b, u, h1, h2, h3, h4⟩
      · refine .inl ⟨by simp [tabGet, hq, h1], ?_⟩
        simp only [atKey, List.find?_cons, e] at h2 ⊢
        exact h2
      · refine .inr ⟨d, w, b, u, by simp [tabGet, hq, h1], ?_, h3, h4⟩
        simp only [atKey, List.find?_cons, e] at h2 ⊢
        exact h2
theorem tab_some {p : PyData} (hp : keyOk p = true) {kvs : List (PyData × δ)} {xs : List (NestedKey × Addr × Value)} (r : Paired (EntR X.kw H L Vr) kvs xs) : (atKey xs (nk p)).isSome = (tabGet kvs p).isSome := by
  rcases tab_at hp r with ⟨h1, h2⟩ | ⟨d, w, b, u, h1, h2, _⟩ <;> rw [h1, h2] <;> rfl
theorem tab_put {p : PyData} (hp : keyOk p = true) {b : Addr} {u : Value} {v : V} {d : δ} (hb : Rp X.K H L (.ref b) p) (hu : RelV v u) (hd : Vr d v) {kvs : List (PyData × δ)} {xs : List (NestedKey × Addr × Value)} (r : Paired (EntR X.kw H L Vr) kvs xs) :
    Paired (EntR X.kw H L Vr) (tabPut kvs p d) (storedH xs (nk p) b u) := by
  unfold tabPut storedH
  rw [tab_some hp r]
  split
  · have : ∀ {kvs : List (PyData × δ)} {xs : List (NestedKey × Addr × Value)}, Paired (EntR X.kw H L Vr) kvs xs → Paired (EntR X.kw H L Vr) (kvs.map fun q => if peq q.1 p then (q.1, d) else q) (xs.map (putAt (nk p) u)) := fun {kvs xs} r => by
      induction r with
      | nil => exact .nil
      | @cons q x qs xs k t ih =>
        refine .cons ?_ ih
        obtain ⟨k1, k2, k3, w, k4, k5⟩ := k
        obtain ⟨qp, qd⟩ := q
        obtain ⟨x1, x2, x3⟩ := x
        simp only at k1 k2 k3 k4 k5
        subst k2
        have e := key_eq k1 hp
        cases hq : peq qp p with
        | true =>
          rw [hq] at e
          have e' := of_decide_eq_true e
          simp only [putAt, hq, if_true, e']
          exact ⟨k1, e'.symm, k3, v, hu, hd⟩
        | false =>
          rw [hq] at e
          have e' := of_decide_eq_false e
          simp only [putAt, hq, if_neg e', Bool.false_eq_true, if_false]
          exact ⟨k1, rfl, k3, w, k4, k5⟩
    exact this r
  · exact Paired.snoc r ⟨hp, rfl, hb, v, hu, hd⟩
theorem tabPut_length (kvs : List (PyData × δ)) (p : PyData) (d : δ) : (tabPut kvs p d).length ≤ kvs.length + 1 := by
  unfold tabPut
  split <;> simp
/-- the very object of a dict that lies in the heap -/
theorem TabAt.of {h : Heap} {xs : List (NestedKey × Addr × Value)} (dd : h.DictOfH (nestedKind X.prog X.w) a xs) (z : kvs.length ≤ sizeLine) (m : (a == sysModules) = false) :
    ∃ o, h.get? a = some o ∧ ∀ {H' : Hp} {L' : Addr → Prop} {Vr' : δ → V → Prop}, H' a = some (.ext fun h => h.get? a = some o) → Paired (EntR X.kw H' L' Vr') kvs xs → TabAt X.kw H' L' Vr' kvs a := by
  obtain ⟨o, es, ep, h1, h2, h3, h4, h5, h6⟩ := dd
  exact ⟨o, h1, fun {H' L' Vr'} hh hp => ⟨z, m, o, es, ep, xs, hh, h2, h3, by rw [h4]; rfl, h6, hp⟩⟩
theorem tabObj_ok {P : Program} {w : World} {H : Hp} {h : Heap} {o : Obj} (e : h.get? a = some o) : ObjOk P w H h a (.ext fun h => h.get? a = some o) := ⟨e, ⟨o, e⟩, fun h1 h2 p k => k o p⟩
end
end L2.LC

set_option maxHeartbeats 1000000
/-! LC: enumerate over a tuple. -/
namespace PySem
open Sem (wp)
open AutoSeq1 (wpAny_loadPart')
theorem lc_enum_newT (l : Addr) (items : Array Value) (n : Nat) (dct : Option Addr) (sl : Array (Option Value)) :
    Meets (Builtin.«enumerate.__new__» ⟨[.type "enumerate", .ref l], []⟩) (fun _ R s => s.heap.get? l = some { cls := .type "tuple", dict := dct, data := .seq items n, slots := sl } ∧
      R (.ok (.ret (.ref (s.heap.push { cls := .type "tuple_iterator", data := .fields #[.ref l, .int 0 0] }).objs.size)))
        { s with heap := (s.heap.push { cls := .type "tuple_iterator", data := .fields #[.ref l, .int 0 0] }).push { cls := .type "enumerate", data := .fields #[.none, .bool false, .ref s.heap.objs.size, rawInt 0, .none, .none] } }) :=
  .of_wp fun prog w A R s h => by
    obtain ⟨hp, g, d, tk, os⟩ := s
    obtain ⟨hl, h⟩ := h
    have hsub := sub_enumerate
    have hT : Heap.IsTuple (Shared.heap ⟨hp, g, d, tk, os⟩) l items := ⟨_, hl, rfl, n, rfl⟩
    wp_walk using wpAny_loadPart' hl
    refine wpAny_stack_any fun st => wpAny_pure ?_
    split
    · rename_i c _ _ _ _ _
      cases (c == Value.type "enumerate") <;> (wp_walk using wpAny_loadPart' hl, wpAny_pyIter_tuple hT; exact ⟨_, rfl, h⟩)
    · wp_walk using wpAny_loadPart' hl, wpAny_pyIter_tuple hT
      exact ⟨_, rfl, h⟩
section
variable {prog : Program} {w : World} {A : Around} {E : Value → Shared → Prop} {s : Shared}
theorem lc_call_enumT {l : Addr} {items : Array Value} {Q : Value → Shared → Prop} (hT : s.heap.IsTuple l items)
    (h : ∀ h', IsEnum h' (s.heap.objs.size + 1) s.heap.objs.size 0 .none → h'.IsTupleIter s.heap.objs.size l 0 → h'.objs.size = s.heap.objs.size + 2 → (∀ b o, s.heap.get? b = some o → h'.get? b = some o) → Q (.ref (s.heap.objs.size + 1)) { s with heap := h' }) :
    wpAny (model prog w) A (call (.type "enumerate") [.ref l]) Q E s := by
  obtain ⟨⟨c, dct, dt, sl⟩, hl, hc, n, hd⟩ := hT
  replace hc : c = .type "tuple" := hc
  replace hd : dt = .seq items n := hd
  subst hc hd
  refine callType_new F.called_enumerate (by decide) (F.typeCall_enumerate_1 _) (F.newCall_enumerate_1 _) (fun obj => F.args_object_init_2 obj _) F.entry_enumerate_new (lc_enum_newT l items n dct sl) ⟨hl, ?_⟩
  have hz : (s.heap.push { cls := .type "tuple_iterator", data := .fields #[.ref l, .int 0 0] }).objs.size = s.heap.objs.size + 1 := Heap.size_push ..
  show _ ∧ _
  rw [hz]
  have he : IsEnum ((s.heap.push { cls := .type "tuple_iterator", data := .fields #[.ref l, .int 0 0] }).push { cls := .type "enumerate", data := .fields #[.none, .bool false, .ref s.heap.objs.size, rawInt 0, .none, .none] }) (s.heap.objs.size + 1) s.heap.objs.size 0 .none := by
    have q := Heap.get?_push_size (s.heap.push { cls := .type "tuple_iterator", data := .fields #[.ref l, .int 0 0] }) (o := { cls := .type "enumerate", data := .fields #[.none, .bool false, .ref s.heap.objs.size, rawInt 0, .none, .none] }) rfl
    rw [hz] at q
    exact q
  exact ⟨⟨_, he, rfl⟩, h _ he ⟨_, Heap.get?_push_of_some _ (Heap.get?_push_size _ rfl), rfl, rfl⟩ (by rw [Heap.size_push, hz]) fun b o x => Heap.get?_push_of_some _ (Heap.get?_push_of_some _ x)⟩
theorem lc_enum_endT {e it t : Addr} {i : Nat} {items : Array Value} {old : Value} {Q : Option Value → Shared → Prop} (hh : A.handled = none) (he : IsEnum s.heap e it ((i : Nat) : Int) old) (hit : s.heap.IsTupleIter it t i) (ht : s.heap.IsTuple t items) (hge : items.size ≤ i)
    (hQ : ∀ h', Heap.ExtBut it s.heap h' → Q none { s with heap := h' }) : wpAny (model prog w) A (pyNext (.ref e)) Q E s := by
  have hT : s.TypeIs (.ref e) "enumerate" := ⟨_, he, rfl⟩
  unfold pyNext
  refine wpAny_bind (wpAny_attempt (wpAny_callSpecial?_slot (name := Str.ofString "__next__") hT F.slot_enumerate_next (wpAny_call_entry F.slot_enumerate_next hT F.entry_enumerate_next ?_ (F.args_enumerate_next_1 _))))
  show wpAny _ _ (field (.ref e) 2 >>= _) _ _ _
  refine wpAny_bind (wpAny_field he rfl (x := .ref it) rfl ?_)
  refine wpAny_bind (wpAny_nextOf_tuple_end (A := A.in1) hh hit ht (by simp [hge]) fun h' x he' hx' => ?_)
  obtain ⟨o, ho, hc⟩ := hx'
  exact wpAny_bind (wpAny_isInstance (T := "StopIteration") (b := true) ⟨o, ho, hc⟩ isSubtype_stop (wpAny_pure (hQ _ he')))
end
end PySem
namespace L2.LC
open PySem PySem.Spec PyProof.Rows
/-- the tuple at a, each item in a new pair -/
def IteT (K : PySem.W.Frag) (a : Addr) : It :=
  ⟨fun i H => ∃ (xs : List V) (x : V), SqT K H a xs ∧ xs[i]? = some x, fun i H v H' => ∃ T x, v = .ref T ∧ H T = none ∧ H' = upd H T (.tup [.int (i : Nat), x]) ∧ ∀ xs, SqT K H a xs → xs[i]? = some x, fun i H => ∃ xs : List V, SqT K H a xs ∧ xs.length ≤ i⟩
theorem isTuple_of {h : Heap} {a : Addr} {its : Array Value} (x : IsTup h a its) : h.IsTuple a its := x
theorem turn_enumT {P : Program} {w : World} {K : PySem.W.Frag} {elts : List Expr} {kk : Nat} {tpos : Pos} (a e it : Addr) :
    Turn P w K (.Tuple elts kk tpos) (IteT K a) [e, it] e (fun i h => (∃ old, IsEnum h e it ((i : Nat) : Int) old) ∧ h.IsTupleIter it a i ∧ e ≠ it ∧ a ≠ it ∧ a ≠ e) where
  mem := by simp
  obj := fun i h st b hb => by
    obtain ⟨⟨old, he⟩, ⟨o, ho, hc, hd⟩, _⟩ := st
    have e' : b = e ∨ b = it := by simpa using hb
    rcases e' with z | z
    · rw [z]; exact ⟨_, he, fun v q => nomatch q⟩
    · rw [z]; exact ⟨o, ho, fun v q => by rw [hd] at q; cases q⟩
  keep := fun i h h' st k => let ⟨⟨old, he⟩, hi, hne⟩ := st; ⟨⟨old, k e (by simp) _ he⟩, hi.at fun o q => k it (by simp) o q, hne⟩
  item := by
    intro X hP hw hK hc i pins s σ H E I hf st hg
    subst hP hw hK
    obtain ⟨⟨old, he⟩, hit, hne, hai, hae⟩ := st
    obtain ⟨xs, x, hq, hx⟩ := hg
    obtain ⟨its, rv, p, hz⟩ := I.tuple hq
    obtain ⟨u, hu, ru⟩ := rv.get hx
    have hel : e < s.heap.objs.size := Heap.lt_size he
    have hil : it < s.heap.objs.size := by obtain ⟨_, q, _⟩ := hit; exact Heap.lt_size q
    have hlt : i < its.toArray.size := by rw [List.size_toArray]; exact (List.getElem?_eq_some_iff.mp hu).1
    refine wpAny_pyNext_enum_itemD (Draws.tuple (A := X.A.in1) (I.ok.hd hc) it a hai its.toArray) he ⟨hit, isTuple_of p⟩ hlt hne (by simp [hne, Ne.symm hae]) fun y h' tk hP ho hit' hT hsz hk => ?_
    have hy : y = u := by
      have e1 : its.toArray[i]? = some u := by simpa using hu
      have e2 : its.toArray[i]? = some y := hP
      rw [e1] at e2
      exact (Option.some.inj e2).symm
    subst hy
    refine ⟨_, rfl, wpAny_letOwnedTupleGo_enum (s := { s with heap := h', toks := tk + 1 }) ho fun h'' he' sb => ?_⟩
    have hT2 : h''.get? s.heap.objs.size = some { cls := .type "tuple", data := .seq #[.int i tk, y] } := (sb.2 _ (Nat.ne_of_gt hel)).trans hT
    have new : ObjOk X.prog X.w (upd H s.heap.objs.size (.tup [.int (i : Nat), x])) h'' s.heap.objs.size (.tup [.int (i : Nat), x]) :=
      ⟨by show 2 ≤ sizeLine; decide, [.int i tk, y], .cons ⟨_, rfl⟩ (.cons ru .nil), ⟨_, hT2, rfl, _, rfl⟩⟩
    have I1 : Inv X pins σ (upd H s.heap.objs.size (.tup [.int (i : Nat), x])) { s with heap := h'', toks := tk + 1 } :=
      I.turnedNew (ch := [e, it]) (fun b ob hb q => (sb.2 b (fun z => hb (by simp [z]))).trans (hk b ob (fun z => hb (by simp [z])) (fun z => hb (by simp [z])) q)) hf (Nat.le_refl _) new
    refine ⟨.ref s.heap.objs.size, _, I1, rfl, ⟨_, x, rfl, I.hok.fresh (Nat.le_refl _), rfl, fun ys hy => by rw [I.tuple_inj hy hq]; exact hx⟩, ⟨⟨y, ?_⟩, hit'.1.at fun o q => (sb.2 it (Ne.symm hne)).trans q, hne, hai, hae⟩, fun b hb => ?_⟩
    · have e1 : ((i + 1 : Nat) : Int) = (i : Int) + 1 := by omega
      rw [e1]; exact he'
    · have hb' : b < s.heap.objs.size := by
        have e' : b = e ∨ b = it := by simpa using hb
        rcases e' with z | z
        · rw [z]; exact hel
        · rw [z]; exact hil
      rw [upd_ne (Nat.ne_of_lt hb')]
      exact (hf b hb).1
  done := by
    intro X hP hw hK hc i pins s σ H E I hf st hg
    subst hP hw hK
    obtain ⟨⟨old, he⟩, hit, hne, hai, hae⟩ := st
    obtain ⟨xs, hq, hx⟩ := hg
    obtain ⟨its, rv, p, hz⟩ := I.tuple hq
    obtain ⟨f0, f1, f2, f3, f4, f5⟩ := hf it (by simp)
    have hl := rv.length
    exact lc_enum_endT (I.ok.hd hc) he hit (isTuple_of p) (by rw [List.size_toArray]; omega) fun h' eb => ⟨rfl, I.turned (t' := s.toks) (fun b o hb q => eb b o hb q) f0 f1 f3 f4 f5⟩
  self := fun A i s Q E st h => let ⟨⟨_, he⟩, _⟩ := st; wpAny_pyIter_enum he h
def iEnumA (K : PySem.W.Frag) (ta : TA) : TI := fun σ H R => ta σ H fun vs H1 => ∃ a xs, vs = [.ref a] ∧ ((SqL K H1 a xs ∧ R (Ite K a) H1) ∨ (SqT K H1 a xs ∧ R (IteT K a) H1))
theorem pi_enumA {X : Cx} {e : Expr} {ta : TA} {p pos tpos : Pos} {elts : List Expr} {kk : Nat} (hg : Gl X "enumerate") (hm : X.mg "enumerate" = none) (ha : PA X [e] ta) (hs : starEach [e] X.env = [(false, eval e X.env)]) :
    PI X (.Tuple elts kk tpos) (.Call (.Name "enumerate" p) [e] [] pos) (iEnumA X.K ta) := by
  refine ⟨fun pins s σ H R I h => ?_⟩
  refine Call_ (ld_blt I hg hm boot_enumerate (PyProof.Rows.callWith_type1 (thn (ha.run pos pins s σ H _ I h) fun us s1 ⟨vs, H1, I1, r1, q1⟩ => ?_) hs rfl))
  obtain ⟨a, xs, ex, q⟩ := q1
  subst ex
  have fp : ∀ b ∈ [s1.heap.objs.size + 1, s1.heap.objs.size], s1.heap.objs.size ≤ b := fun b hb => by
    have e' : b = s1.heap.objs.size + 1 ∨ b = s1.heap.objs.size := by simpa using hb
    rcases e' with z | z
    · rw [z]; exact Nat.le_add_right _ _
    · rw [z]; exact Nat.le_refl _
  cases r1 with
  | cons r rr =>
    cases rr
    cases r
    rcases q with ⟨hq, q⟩ | ⟨hq, q⟩
    · obtain ⟨its, rv, p', hz⟩ := I1.list hq
      refine call_enumerate_list p'.isList fun h' he hit hsz hk => wpAny_pyIter_enum he ?_
      exact ⟨s1.heap.objs.size + 1, [s1.heap.objs.size + 1, s1.heap.objs.size], _, _, H1, rfl, I1.kept (t' := s1.toks) hk, turn_enum a (s1.heap.objs.size + 1) s1.heap.objs.size, ⟨⟨.none, he⟩, hit, Nat.succ_ne_self _⟩, fun b hb => I1.fpOk (fp b hb) (I1.hok.fresh (fp b hb)), q⟩
    · obtain ⟨its, rv, p', hz⟩ := I1.tuple hq
      have al : a < s1.heap.objs.size := p'.lt
      refine lc_call_enumT (isTuple_of p') fun h' he hit hsz hk => wpAny_pyIter_enum he ?_
      exact ⟨s1.heap.objs.size + 1, [s1.heap.objs.size + 1, s1.heap.objs.size], _, _, H1, rfl, I1.kept (t' := s1.toks) hk, turn_enumT a (s1.heap.objs.size + 1) s1.heap.objs.size, ⟨⟨.none, he⟩, hit, Nat.succ_ne_self _, Nat.ne_of_lt al, Nat.ne_of_lt (Nat.lt_succ_of_lt al)⟩, fun b hb => I1.fpOk (fp b hb) (I1.hok.fresh (fp b hb)), q⟩
end L2.LC

/-! LC: the operators and built-ins on data. -/
namespace L2.LC
open PySem PySem.Spec PyProof.Rows PySem.SeqAt
section
variable {K : Kw} {Z : Addr → Prop} {μ : List Addr} {S : Hs} {H : Hp} {d : D} {v : V}
theorem rp_ints {K : PySem.W.Frag} {H : Hp} {L : Addr → Prop} : ∀ ns : List Int, RpAll K H L (ns.map V.int) (ns.map .int)
  | [] => .nil
  | i :: is => .cons (.int i) (rp_ints is)
theorem rd_lst {ps : List PyData} (rh : RelH K Z μ S H) (r : RelD K Z μ S H d v) (e : rd S d = some (.list ps)) :
    ∃ a vs, v = .ref a ∧ SqL K H a vs ∧ RpAll K H (Lv Z μ S) vs ps ∧ ps.length ≤ sizeLine := by
  cases d with
  | scr ns =>
    obtain ⟨a, rfl, z, h⟩ := r
    simp only [rd, Option.some.injEq, PyData.list.injEq] at e
    subst e
    refine ⟨a, ns.map V.int, rfl, h.elim (fun h => h.sq) .inr, rp_ints ns, by simpa using z⟩
  | dct kvs => simp [rd] at e
  | exv x => simp [rd] at e
  | dat p =>
    cases e
    cases r with
    | lst h z q => exact ⟨_, _, rfl, h.sq, q, z⟩
  | ref n =>
    obtain ⟨a, rfl, ha⟩ := r
    simp only [rd] at e
    split at e
    · rename_i xs hx
      cases q : dats xs with
      | none => rw [q] at e; cases e
      | some qs =>
        rw [q] at e
        simp at e
        subst e
        obtain ⟨vs, h1, h2, h3⟩ := rh.ob n _ a hx ha
        exact ⟨a, vs, rfl, .inl (.inl h1), RpAll.of_dats h3 q, by rw [dats_length q]; exact h2⟩
    · cases e
theorem rd_dat {p : PyData} (e : rd S d = some p) (h : ∀ ps, p ≠ .list ps) : d = .dat p := by
  cases d with
  | dat q => cases e; rfl
  | scr ns => simp only [rd, Option.some.injEq] at e; exact absurd e.symm (h _)
  | dct kvs => simp [rd] at e
  | exv x => simp [rd] at e
  | ref n =>
    simp only [rd] at e
    split at e
    · rename_i xs hx
      cases q : dats xs with
      | none => rw [q] at e; cases e
      | some qs => rw [q] at e; simp at e; exact absurd e.symm (h qs)
    · cases e
theorem rd_dp {p : PyData} (rh : RelH K Z μ S H) (r : RelD K Z μ S H d v) (e : rd S d = some p) : Dp K H v p := by
  cases p with
  | list ps =>
    obtain ⟨a, vs, rfl, h1, h2, _⟩ := rd_lst rh r e
    exact .lst h1 h2.dp
  | none => have := rd_dat e (by simp); subst this; exact Rp.dp r
  | bool b => have := rd_dat e (by simp); subst this; exact Rp.dp r
  | int b => have := rd_dat e (by simp); subst this; exact Rp.dp r
  | str b => have := rd_dat e (by simp); subst this; exact Rp.dp r
  | tuple b => have := rd_dat e (by simp); subst this; exact Rp.dp r
  | dict b => have := rd_dat e (by simp); subst this; exact Rp.dp r
theorem rd_tup {ps : List PyData} (r : RelD K Z μ S H d v) (e : rd S d = some (.tuple ps)) :
    ∃ a vs, v = .ref a ∧ FxT K H (Lv Z μ S) a vs ∧ RpAll K H (Lv Z μ S) vs ps ∧ ps.length ≤ sizeLine := by
  have := rd_dat e (by simp)
  subst this
  cases r with
  | tup h z q => exact ⟨_, _, rfl, h, q, z⟩
end
mutual
theorem Dp.plain {K : PySem.W.Frag} {H : Hp} : ∀ {v : V} {p : PyData}, Dp K H v p → p.plain = true
  | _, _, .non => by simp [PyData.plain]
  | _, _, .bl b => by simp [PyData.plain]
  | _, _, .int i => by simp [PyData.plain]
  | _, _, .str x => by simp [PyData.plain]
  | _, _, .lst _ r => by simp [PyData.plain, DpAll.plain r]
  | _, _, .tup _ r => by simp [PyData.plain, DpAll.plain r]
theorem DpAll.plain {K : PySem.W.Frag} {H : Hp} : ∀ {vs : List V} {ps : List PyData}, DpAll K H vs ps → PyData.plainAll ps = true
  | _, _, .nil => by simp [PyData.plainAll]
  | _, _, .cons a b => by simp [PyData.plainAll, Dp.plain a, DpAll.plain b]
end
theorem RpAll.get {K : PySem.W.Frag} {H : Hp} {L : Addr → Prop} : ∀ {vs : List V} {ps : List PyData} {i : Nat} {p : PyData}, RpAll K H L vs ps → ps[i]? = some p → ∃ v, vs[i]? = some v ∧ Rp K H L v p
  | _, _, _, _, .nil, e => by simp at e
  | _, _, 0, _, .cons a b, e => by simp at e; subst e; exact ⟨_, rfl, a⟩
  | _, _, i + 1, _, .cons a b, e => by
    simp only [List.getElem?_cons_succ] at e ⊢
    exact RpAll.get b e
theorem RpAll.append {K : PySem.W.Frag} {H : Hp} {L : Addr → Prop} : ∀ {vs ws : List V} {ps qs : List PyData}, RpAll K H L vs ps → RpAll K H L ws qs → RpAll K H L (vs ++ ws) (ps ++ qs)
  | _, _, _, _, .nil, s => s
  | _, _, _, _, .cons a b, s => .cons a (RpAll.append b s)
theorem RpAll.drop {K : PySem.W.Frag} {H : Hp} {L : Addr → Prop} : ∀ {vs : List V} {ps : List PyData} (n : Nat), RpAll K H L vs ps → RpAll K H L (vs.drop n) (ps.drop n)
  | _, _, 0, r => r
  | _, _, _ + 1, .nil => .nil
  | _, _, n + 1, .cons _ b => RpAll.drop n b
theorem RpAll.take {K : PySem.W.Frag} {H : Hp} {L : Addr → Prop} : ∀ {vs : List V} {ps : List PyData} (n : Nat), RpAll K H L vs ps → RpAll K H L (vs.take n) (ps.take n)
  | _, _, 0, _ => .nil
  | _, _, _ + 1, .nil => .nil
  | _, _, n + 1, .cons a b => .cons a (RpAll.take n b)
theorem RpAll.cut {K : PySem.W.Frag} {H : Hp} {L : Addr → Prop} {vs : List V} {ps : List PyData} (r : RpAll K H L vs ps) (lo hi : Option Int) : RpAll K H L (cutV vs lo hi) (LC.cut ps lo hi) := by
  unfold cutV LC.cut
  rw [r.length]
  exact (r.drop _).take _
theorem cut_length {α : Type} (xs : List α) (lo hi : Option Int) : (LC.cut xs lo hi).length ≤ xs.length := by
  unfold LC.cut
  rw [List.length_take, List.length_drop]
  omega
section
variable {X : Cx}
/-- what the layer's rules want of a result that changes nothing -/
theorem fin0 {K : Kw} {Z : Addr → Prop} {μ : List Addr} {S : Hs} {H : Hp} {d : D} {Q : VK} {v : V} (rh : RelH K Z μ S H) (q : ∀ v μ' H', Later μ S H μ' S H' → RelH K Z μ' S H' → RelD K Z μ' S H' d v → Q v H') (r : RelD K Z μ S H d v) : Q v H := q v μ H (Later.refl _ _ _) rh r
/-! ### == != in < -/
theorem deep_room {k : Nat} {A : Around} {p q : PyData} (hr : Room k A) (h : deep p q = true) : A.units + min p.depth q.depth < cLine := by
  have h1 := of_decide_eq_true h
  have h2 := hr.un
  omega
theorem depth_all (xs : List PyData) : (PyData.tuple xs).depth = PyData.depthAll xs + 1 ∧ (PyData.list xs).depth = PyData.depthAll xs + 1 := by
  constructor <;> simp [PyData.depth]
theorem inT_at {X : Cx} {Z : Addr → Prop} {μ : List Addr} {S : Hs} {H : Hp} {pins : List (Addr × Obj)} {σ : St} {s : Shared} {dx dy : D} {x y : V} {v u : Value} {b : Bool} (I : Inv X pins σ H s) (rh : RelH X.kw Z μ S H) (r1 : RelD X.kw Z μ S H dx x) (rx : RelV x v) (r2 : RelD X.kw Z μ S H dy y) (ry : RelV y u) (e : inT S dx dy = some b) :
    ∃ p ab ad xs, v = .ref ab ∧ u = .ref ad ∧ (nestedKind X.prog X.w).is s.heap (nk p) ab ∧ (ad == sysModules) = false ∧ s.heap.DictOfH (nestedKind X.prog X.w) ad xs ∧ (atKey xs (nk p)).isSome = b := by
  cases dx with
  | dat p =>
    cases dy with
    | exv x => simp [inT] at e
    | dct kvs =>
      simp only [inT] at e
      split at e
      · rename_i hk
        cases e
        obtain ⟨ad, rfl, _, tb⟩ := r2
        cases ry
        obtain ⟨_, m, xs, dd, pr⟩ := tb.dict I
        obtain ⟨ab, rfl, rfl, hkey⟩ := key_at I r1 rx hk
        exact ⟨p, ab, ad, xs, rfl, rfl, hkey, m, dd, tab_some hk pr⟩
      · cases e
    | ref n =>
      simp only [inT] at e
      split at e
      · rename_i kvs hn
        split at e
        · rename_i hk
          cases e
          obtain ⟨ad, rfl, ha⟩ := r2
          cases ry
          have tb : TabAt X.kw H (Lv Z μ S) (RelD X.kw Z μ S H) kvs ad := rh.ob n _ ad hn ha
          obtain ⟨_, m, xs, dd, pr⟩ := tb.dict I
          obtain ⟨ab, rfl, rfl, hkey⟩ := key_at I r1 rx hk
          exact ⟨p, ab, ad, xs, rfl, rfl, hkey, m, dd, tab_some hk pr⟩
        · cases e
      · cases e
    | dat q => simp [inT] at e
    | scr ns => simp [inT] at e
  | _ => simp [inT] at e
theorem op_cmp {k : Nat} (hr : Room k X.A) {op : CmpOp} {o : COp} (ho : (op, o) ∈ [(CmpOp.Eq, COp.eq), (.NotEq, .ne), (.In, .isin), (.NotIn, .notin), (.Lt, .lt), (.LtE, .le), (.Gt, .gt), (.GtE, .ge), (.Is, .isN), (.IsNot, .notN)]) : DOp X (compareOp op) (cmpF o) := by
  intro pins s σ H x y v u Q I rx ry h
  obtain ⟨Z, μ, S, dx, dy, d, rh, r1, r2, e, q⟩ := h
  unfold cmpF at e
  obtain ⟨b, e9, e8⟩ := Option.map_eq_some_iff.mp e
  subst e8
  clear e
  have e := e9
  clear e9
  have fin : EP X pins σ Q (.bool b) s := ⟨.bl b, H, I, rfl, fin0 rh q (Rp.bl b)⟩
  -- is None
  have isn : ∀ {d : D} {v : V}, RelD X.kw Z μ S H d v → decide (v = V.non) = isNone d := fun {d v} r => by
    cases d with
    | ref n => obtain ⟨a, rfl, _⟩ := r; rfl
    | scr ns => obtain ⟨a, rfl, _⟩ := r; rfl
    | dct kvs => obtain ⟨a, rfl, _⟩ := r; rfl
    | exv x => obtain ⟨a, _, _, rfl, _⟩ := r; rfl
    | dat p => cases r <;> rfl
  have data : ∀ {o : COp} {p q : PyData}, rd S dx = some p → rd S dy = some q → ∃ as bs, Reads s.heap v p as ∧ Reads s.heap u q bs ∧ p.plain = true ∧ q.plain = true := fun {o p q} e1 e2 => by
    have d1 := rd_dp rh r1 e1
    have d2 := rd_dp rh r2 e2
    obtain ⟨as, h1⟩ := Dp.reads I p x v d1 rx
    obtain ⟨bs, h2⟩ := Dp.reads I q y u d2 ry
    exact ⟨as, bs, h1, h2, Dp.plain d1, Dp.plain d2⟩
  simp only [List.mem_cons, Prod.mk.injEq, List.not_mem_nil, or_false] at ho
  rcases ho with ⟨rfl, rfl⟩ | ⟨rfl, rfl⟩ | ⟨rfl, rfl⟩ | ⟨rfl, rfl⟩ | ⟨rfl, rfl⟩ | ⟨rfl, rfl⟩ | ⟨rfl, rfl⟩ | ⟨rfl, rfl⟩ | ⟨rfl, rfl⟩ | ⟨rfl, rfl⟩
  · -- ==
    simp only [cmpD, cmpR] at e
    split at e
    · rename_i p q e1 e2
      simp only [cmpP] at e
      split at e
      · rename_i hd
        cases e
        obtain ⟨as, bs, h1, h2, h3, h4⟩ := data (o := .eq) e1 e2
        exact eq_plain h1 h2 h3 h4 (deep_room hr hd) fin
      · cases e
    · cases e
  · -- !=
    simp only [cmpD, cmpR] at e
    split at e
    · rename_i p q e1 e2
      simp only [cmpP] at e
      split at e
      · rename_i hd
        cases e
        obtain ⟨as, bs, h1, h2, h3, h4⟩ := data (o := .ne) e1 e2
        exact ne_plain h1 h2 h3 h4 (deep_room hr hd) fin
      · cases e
    · cases e
  · -- in
    simp only [cmpD] at e
    cases eT : inT S dx dy with
    | some t =>
      rw [eT] at e
      cases e
      obtain ⟨p, ab, ad, xs, rfl, rfl, h1, h2, h3, h4⟩ := inT_at I rh r1 rx r2 ry eT
      refine wpAny_in_heap (knd := nestedKind X.prog X.w) (by have := hr.un; show X.A.units + 1 + 8 < cLine; omega) h1 h2 h3 ?_
      rw [h4]
      exact ⟨.bl _, H, I.tok _, rfl, fin0 rh q (Rp.bl _)⟩
    | none =>
    rw [eT] at e
    simp only [cmpR] at e
    split at e
    · rename_i p q e1 e2
      obtain ⟨as, bs, h1, h2, h3, h4⟩ := data (o := .eq) e1 e2
      cases q with
      | tuple xs =>
        simp only [cmpP] at e
        split at e
        · rename_i hd
          cases e
          refine in_tuple_data h2 h1 (by simpa [PyData.plain] using h4) h3 ?_ fin
          have := deep_room hr hd
          rw [(depth_all xs).1] at this
          have h5 := hr.un
          have h6 := of_decide_eq_true hd
          rw [(depth_all xs).1] at h6
          omega
        · cases e
      | list xs =>
        simp only [cmpP] at e
        split at e
        · rename_i hd
          cases e
          refine in_list_data h2 h1 (by simpa [PyData.plain] using h4) h3 ?_ fin
          have h5 := hr.un
          have h6 := of_decide_eq_true hd
          rw [(depth_all xs).2] at h6
          omega
        · cases e
      | _ => simp [cmpP, ordP] at e
    · cases e
  · -- not in
    simp only [cmpD] at e
    cases eT : inT S dx dy with
    | some t =>
      rw [eT] at e
      cases e
      obtain ⟨p, ab, ad, xs, rfl, rfl, h1, h2, h3, h4⟩ := inT_at I rh r1 rx r2 ry eT
      show wpAny (model X.prog X.w) X.A (do return (Value.bool (!(← contains (.ref ad) (.ref ab))))) _ _ _
      refine wpAny_bind (wpAny_contains_heap (knd := nestedKind X.prog X.w) (by have := hr.un; show X.A.units + 1 + 8 < cLine; omega) h1 h2 h3 ?_)
      rw [h4]
      exact wpAny_pure ⟨.bl _, H, I.tok _, rfl, fin0 rh q (Rp.bl _)⟩
    | none =>
    rw [eT] at e
    simp only [cmpR] at e
    split at e
    · rename_i p q e1 e2
      obtain ⟨as, bs, h1, h2, h3, h4⟩ := data (o := .eq) e1 e2
      cases q with
      | tuple xs =>
        simp only [cmpP] at e
        split at e
        · rename_i hd
          cases e
          refine notIn_tuple_data h2 h1 (by simpa [PyData.plain] using h4) h3 ?_ fin
          have h5 := hr.un
          have h6 := of_decide_eq_true hd
          rw [(depth_all xs).1] at h6
          omega
        · cases e
      | list xs =>
        simp only [cmpP] at e
        split at e
        · rename_i hd
          cases e
          refine notIn_list_data h2 h1 (by simpa [PyData.plain] using h4) h3 ?_ fin
          have h5 := hr.un
          have h6 := of_decide_eq_true hd
          rw [(depth_all xs).2] at h6
          omega
        · cases e
      | _ => simp [cmpP, ordP] at e
    · cases e
  · -- <
    simp only [cmpD, cmpR] at e
    split at e
    · rename_i p q e1 e2
      obtain ⟨as, bs, h1, h2, h3, h4⟩ := data (o := .eq) e1 e2
      have gen : ordP .lt p q = some b → wpAny (model X.prog X.w) X.A (compareOp .Lt v u) (EP X pins σ Q) X.xe s := fun e => by
        simp only [ordP] at e
        split at e
        · rename_i hd
          rw [Bool.and_eq_true] at hd
          split at e
          · cases e
          · rename_i hn
            cases e
            exact PySem.W.lt_data h1 h2 hd.1 (fun z => hn z) (deep_room hr hd.2) fin
        · cases e
      cases p with
      | int i =>
        cases q with
        | int j =>
          simp only [cmpP] at e
          cases e
          cases h1
          cases h2
          exact lt_int fin
        | _ => exact gen e
      | _ => exact gen e
    · cases e
  · -- <=
    simp only [cmpD, cmpR] at e
    split at e
    · rename_i p q e1 e2
      obtain ⟨as, bs, h1, h2, h3, h4⟩ := data (o := .eq) e1 e2
      cases p with
      | int i =>
        cases q with
        | int j =>
          simp only [cmpP] at e
          cases e
          cases h1
          cases h2
          exact le_int fin
        | _ => simp [cmpP, ordP] at e
      | _ => simp [cmpP, ordP] at e
    · cases e
  · -- >
    simp only [cmpD, cmpR] at e
    split at e
    · rename_i p q e1 e2
      obtain ⟨as, bs, h1, h2, h3, h4⟩ := data (o := .eq) e1 e2
      cases p with
      | int i =>
        cases q with
        | int j =>
          simp only [cmpP] at e
          cases e
          cases h1
          cases h2
          exact gt_int fin
        | _ => simp [cmpP, ordP] at e
      | _ => simp [cmpP, ordP] at e
    · cases e
  · -- >=
    simp only [cmpD, cmpR] at e
    split at e
    · rename_i p q e1 e2
      obtain ⟨as, bs, h1, h2, h3, h4⟩ := data (o := .eq) e1 e2
      cases p with
      | int i =>
        cases q with
        | int j =>
          simp only [cmpP] at e
          cases e
          cases h1
          cases h2
          exact ge_int fin
        | _ => simp [cmpP, ordP] at e
      | _ => simp [cmpP, ordP] at e
    · cases e
  · -- is None
    simp only [cmpD] at e
    split at e
    · rename_i hn
      rw [← isn r2] at hn
      cases e
      refine op_isN pins s σ H x y v u Q I rx ry ⟨of_decide_eq_true hn, ?_⟩
      rw [isn r1]
      exact fin0 rh q (Rp.bl _)
    · unfold isBl at e
      split at e
      · cases e
        cases r1
        cases r2
        exact op_is_bl pins s σ H _ _ v u Q I rx ry ⟨_, _, rfl, rfl, fin0 rh q (Rp.bl _)⟩
      · cases e
  · -- is not None
    simp only [cmpD] at e
    split at e
    · rename_i hn
      rw [← isn r2] at hn
      cases e
      refine op_notN pins s σ H x y v u Q I rx ry ⟨of_decide_eq_true hn, ?_⟩
      rw [isn r1]
      exact fin0 rh q (Rp.bl _)
    · unfold isBl at e
      split at e
      · cases e
        cases r1
        cases r2
        exact op_isnot_bl pins s σ H _ _ v u Q I rx ry ⟨_, _, rfl, rfl, fin0 rh q (Rp.bl _)⟩
      · cases e
end
end L2.LC

/-! LC: operators and built-ins on data, on. -/
namespace L2.LC
open PySem PySem.Spec PyProof.Rows PySem.SeqAt
section
variable {X : Cx} {C : Calls}
/-- list + list, of lists that are read -/
theorem op_catR : OpR X (binaryOp .Add) (fun x y H Q => ∃ l b xs zs, x = .ref l ∧ y = .ref b ∧ Rd H l (.lst xs) ∧ Rd H b (.lst zs) ∧ xs.length + zs.length ≤ sizeLine ∧ ∀ p, H p = none → Q (.ref p) (upd H p (.lst (xs ++ zs)))) := by
  intro pins s σ H x y v u Q I rx ry h
  obtain ⟨l, b, xs, zs, rfl, rfl, hH, hB, hz, q⟩ := h
  cases rx
  cases ry
  obtain ⟨z, its, n, r, e⟩ := hH.ok I.hok
  obtain ⟨z2, its2, n2, r2, e2⟩ := hB.ok I.hok
  have hl := r.length
  have hl2 := r2.length
  refine PySem.P.add_list e e2 ?_ (by rw [List.size_toArray, List.size_toArray]; omega)
  have ea : its.toArray ++ its2.toArray = (its ++ its2).toArray := by simp
  rw [ea]
  exact ⟨.ref _, _, I.lnew (t' := s.toks) (r.append r2) (by rw [List.length_append]; omega), rfl, q _ I.fresh⟩
theorem bin_ints {op : Operator} {o : BOp} {C : Int → Int → Prop} {g : Int → Int → Int} (rule : OpR X (binaryOp op) (rI C fun i j => .int (g i j)))
    (hb : ∀ p q d, binP o p q = some d → ∃ i j, p = .int i ∧ q = .int j ∧ C i j ∧ d = .int (g i j)) : DOp X (binaryOp op) (fun _ x y => binD o x y) := by
  refine OpR_wk rule fun x y H Q ⟨Z, μ, S, dx, dy, d, rh, r1, r2, e, q⟩ => ?_
  cases dx with
  | ref n => simp [binD] at e
  | scr ns => simp [binD] at e
  | dct kvs => simp [binD] at e
  | exv x => simp [binD] at e
  | dat p1 =>
    cases dy with
    | ref n => simp [binD] at e
    | scr ns => simp [binD] at e
    | dct kvs => simp [binD] at e
    | exv x => simp [binD] at e
    | dat p2 =>
      simp only [binD] at e
      obtain ⟨z, e1, rfl⟩ := Option.map_eq_some_iff.mp e
      obtain ⟨i, j, rfl, rfl, hc, rfl⟩ := hb _ _ _ e1
      cases r1
      cases r2
      exact ⟨i, j, rfl, rfl, hc, fin0 rh q (Rp.int _)⟩
theorem rI0_rI {g : Int → Int → V} {f : Value → Value → Sem Value} (h : OpR X f (rI0 g)) : OpR X f (rI (fun _ _ => True) g) := OpR_wk h fun x y H Q ⟨i, j, a, b, _, q⟩ => ⟨i, j, a, b, q⟩
theorem bin_sub : DOp X (binaryOp .Sub) (fun _ x y => binD .sub x y) := bin_ints (rI0_rI op_sub) fun p q d e => by
  cases p <;> cases q <;> simp [binP] at e
  exact ⟨_, _, rfl, rfl, trivial, e.symm⟩
theorem bin_mod : DOp X (binaryOp .Mod) (fun _ x y => binD .mod x y) := bin_ints op_mod fun p q d e => by
  cases p <;> cases q <;> simp [binP] at e
  exact ⟨_, _, rfl, rfl, e.1, e.2.symm⟩
theorem bin_fdiv : DOp X (binaryOp .FloorDiv) (fun _ x y => binD .fdiv x y) := bin_ints op_fdiv fun p q d e => by
  cases p <;> cases q <;> simp [binP] at e
  exact ⟨_, _, rfl, rfl, e.1, e.2.symm⟩
theorem bin_pow : DOp X (binaryOp .Pow) (fun _ x y => binD .pow x y) := bin_ints op_pow fun p q d e => by
  cases p with
  | int i =>
    cases q with
    | int j =>
      simp only [binP] at e
      split at e
      · rename_i h
        cases e
        exact ⟨_, _, rfl, rfl, h, rfl⟩
      · cases e
    | _ => simp [binP] at e
  | _ => cases q <;> simp [binP] at e
theorem small_ok {i : Int} (h : small i = true) : -(2 ^ 64) < i ∧ i < 2 ^ 64 := by
  unfold small at h
  rw [Bool.and_eq_true] at h
  exact ⟨of_decide_eq_true h.1, of_decide_eq_true h.2⟩
theorem tuple_mul1 (l : Addr) (items : Array Value) (n : Nat) (dd : Option Addr) (sl : Array (Option Value)) (u : Tok) :
    Meets (Builtin.«tuple.__mul__» ⟨[.ref l, .int 1 u], []⟩) (fun _ R s => s.heap.get? l = some { cls := .type "tuple", dict := dd, data := .seq items n, slots := sl } ∧ R (.ok (.ret (Value.ref l))) s) :=
  .of_wp fun prog w A R s h => by
    obtain ⟨hp, g, d, tk, os⟩ := s
    obtain ⟨hl, h⟩ := h
    have f1 := AutoSeq1.idx_int
    wp_walk using wpAny_loadPart' hl
    have c1 : (items.isEmpty || (1 : Int) == 1) = true := by simp
    repeat (first
      | (refine wpAny_ite_true (decide_eq_true (by simp)) ?_; wp_walk using wpAny_loadPart' hl)
      | (refine wpAny_ite_false (decide_eq_false (by decide)) ?_; wp_walk using wpAny_loadPart' hl))
    exact ⟨_, rfl, h⟩
theorem tuple_mul0 (l : Addr) (items : Array Value) (n : Nat) (dd : Option Addr) (sl : Array (Option Value)) (u : Tok) (c1 : items.isEmpty = false) :
    Meets (Builtin.«tuple.__mul__» ⟨[.ref l, .int 0 u], []⟩) (fun _ R s => s.heap.get? l = some { cls := .type "tuple", dict := dd, data := .seq items n, slots := sl } ∧
      R (.ok (.ret (Value.ref s.heap.objs.size))) { s with heap := s.heap.push { cls := Value.type "tuple", data := Data.seq #[] }, toks := s.toks }) :=
  .of_wp fun prog w A R s h => by
    obtain ⟨hp, g, d, tk, os⟩ := s
    obtain ⟨hl, h⟩ := h
    have f1 := AutoSeq1.idx_int
    wp_walk using wpAny_loadPart' hl
    exact ⟨_, rfl, h⟩
theorem op_rep1 : OpR X (binaryOp .Mult) (fun x y H Q => ∃ l xs, x = .ref l ∧ y = .int 1 ∧ SqT X.K H l xs ∧ Q (.ref l) H) := by
  intro pins s σ H x y v u Q I rx ry h
  obtain ⟨l, xs, rfl, rfl, hT, q⟩ := h
  cases rx
  obtain ⟨t, rfl⟩ := ry
  obtain ⟨its, r, ⟨⟨cls, dd, data, sl⟩, ho, hc, n, hd⟩, hs⟩ := I.tuple hT
  simp only at hc hd
  subst hc hd
  exact wpAny_binaryOp_repeat_ref (T := "tuple") (U := "int") (by decide) ⟨_, ho, rfl⟩ (fun s' => typeIs_int s' 1 t) noFill_tuple_mul F.fills_int_mul F.slot_int_rmul repeat_tuple F.slot_int_index.lookup
    (call_meets F.slot_int_rmul (typeIs_int s 1 t) F.entry_int_rmul (F.args_int_rmul_2 _ _) (int_rmul_tuple 1 t l its.toArray n dd sl)
      ⟨ho, rfl, ⟨_, ho, rfl⟩, call_meets F.slot_tuple_mul ⟨_, ho, rfl⟩ F.entry_tuple_mul (F.args_tuple_mul_2 _ _) (tuple_mul1 l its.toArray n dd sl t) ⟨ho, ⟨.ref l, H, I, rfl, q⟩⟩⟩)
theorem op_rep0 : OpR X (binaryOp .Mult) (fun x y H Q => ∃ l xs, x = .ref l ∧ y = .int 0 ∧ SqT X.K H l xs ∧ xs ≠ [] ∧ ∀ p, H p = none → Q (.ref p) (upd H p (.tup []))) := by
  intro pins s σ H x y v u Q I rx ry h
  obtain ⟨l, xs, rfl, rfl, hT, hne, q⟩ := h
  cases rx
  obtain ⟨t, rfl⟩ := ry
  obtain ⟨its, r, ⟨⟨cls, dd, data, sl⟩, ho, hc, n, hd⟩, hs⟩ := I.tuple hT
  simp only at hc hd
  subst hc hd
  have hi : its.toArray.isEmpty = false := by
    cases r with
    | nil => exact absurd rfl hne
    | cons a b => rfl
  exact wpAny_binaryOp_repeat_ref (T := "tuple") (U := "int") (by decide) ⟨_, ho, rfl⟩ (fun s' => typeIs_int s' 0 t) noFill_tuple_mul F.fills_int_mul F.slot_int_rmul repeat_tuple F.slot_int_index.lookup
    (call_meets F.slot_int_rmul (typeIs_int s 0 t) F.entry_int_rmul (F.args_int_rmul_2 _ _) (int_rmul_tuple 0 t l its.toArray n dd sl)
      ⟨ho, rfl, ⟨_, ho, rfl⟩, call_meets F.slot_tuple_mul ⟨_, ho, rfl⟩ F.entry_tuple_mul (F.args_tuple_mul_2 _ _) (tuple_mul0 l its.toArray n dd sl t hi)
        ⟨ho, ⟨.ref s.heap.objs.size, _, I.laid (t' := s.toks) (o := .tup []) (fun b ob q => Heap.get?_push_of_some _ q) (Nat.le_refl _) ⟨by decide, [], .nil, IsTup.new _ _⟩, rfl, q _ (I.hok.fresh (Nat.le_refl _))⟩⟩⟩)
theorem RpAll.nil_iff {K : PySem.W.Frag} {H : Hp} {L : Addr → Prop} {vs : List V} {ps : List PyData} (r : RpAll K H L vs ps) : vs = [] ↔ ps = [] := by
  cases r <;> simp
theorem RpAll.rep {K : PySem.W.Frag} {H : Hp} {L : Addr → Prop} {vs : List V} {ps : List PyData} (r : RpAll K H L vs ps) : ∀ n : Nat, RpAll K H L (List.replicate n vs).flatten (List.replicate n ps).flatten
  | 0 => .nil
  | n + 1 => by
    rw [List.replicate_succ, List.replicate_succ, List.flatten_cons, List.flatten_cons]
    exact r.append (RpAll.rep r n)
theorem bin_mul : DOp X (binaryOp .Mult) (fun _ x y => binD .mul x y) := by
  intro pins s σ H x y v u Q I rx ry h
  obtain ⟨Z, μ, S, dx, dy, d, rh, r1, r2, e, q⟩ := h
  cases dx with
  | ref n => simp [binD] at e
  | scr ns => simp [binD] at e
  | dct kvs => simp [binD] at e
  | exv x => simp [binD] at e
  | dat p1 =>
    cases dy with
    | ref n => simp [binD] at e
    | scr ns => simp [binD] at e
    | dct kvs => simp [binD] at e
    | exv x => simp [binD] at e
    | dat p2 =>
      simp only [binD] at e
      obtain ⟨z, e1, e2⟩ := Option.map_eq_some_iff.mp e
      subst e2
      clear e
      cases p1 with
      | int i =>
        cases p2 with
        | int j =>
          simp only [binP] at e1
          split at e1
          · rename_i h
            cases e1
            cases r1
            cases r2
            refine op_mul pins s σ H _ _ v u Q I rx ry ⟨i, j, rfl, rfl, ?_, fin0 rh q (Rp.int _)⟩
            rw [Bool.or_eq_true] at h
            rcases h with h | h
            · exact .inl (small_ok h)
            · exact .inr (small_ok h)
          · cases e1
        | _ => simp [binP] at e1
      | tuple xs =>
        cases p2 with
        | int j =>
          simp only [binP] at e1
          cases r2
          cases r1 with
          | tup h1 z1 q1 =>
            rename_i a vs
            split at e1
            · rename_i hj
              cases e1
              subst hj
              exact op_rep1 pins s σ H _ _ v u Q I rx ry ⟨a, vs, rfl, rfl, h1.sq, fin0 rh q (Rp.tup h1 z1 q1)⟩
            · split at e1
              · rename_i hj
                cases e1
                obtain ⟨rfl, hne⟩ := hj
                exact op_rep0 pins s σ H _ _ v u Q I rx ry ⟨a, vs, rfl, rfl, h1.sq, fun e => hne (q1.nil_iff.mp e), fun p hp => q _ μ _ (later_fresh hp _) (rh.fresh hp _) (rp_tup rh hp .nil (by decide))⟩
              · split at e1
                · rename_i hj
                  cases e1
                  obtain ⟨g1, g2, g3, g4⟩ := hj
                  refine op_repT pins s σ H _ _ v u Q I rx ry ⟨a, j, vs, rfl, rfl, h1.sq, fun e => g4 (q1.nil_iff.mp e), g1, g2, by rw [q1.length]; exact g3, fun p hp => q _ μ _ (later_fresh hp _) (rh.fresh hp _) (rp_tup rh hp (q1.rep _) ?_)⟩
                  rw [PyProof.Rows.lm_len_rep_flat, sizeLine_eq]
                  have a1 : j.toNat * xs.length ≤ 1000 * 1000 := Nat.mul_le_mul (by omega) g3
                  omega
                · cases e1
        | _ => simp [binP] at e1
      | _ => cases p2 <;> simp [binP] at e1
theorem bin_add : DOp X (binaryOp .Add) (fun _ x y => binD .add x y) := by
  intro pins s σ H x y v u Q I rx ry h
  obtain ⟨Z, μ, S, dx, dy, d, rh, r1, r2, e, q⟩ := h
  cases dx with
  | ref n => simp [binD] at e
  | scr ns => simp [binD] at e
  | dct kvs => simp [binD] at e
  | exv x => simp [binD] at e
  | dat p1 =>
    cases dy with
    | ref n => simp [binD] at e
    | scr ns => simp [binD] at e
    | dct kvs => simp [binD] at e
    | exv x => simp [binD] at e
    | dat p2 =>
      simp only [binD] at e
      obtain ⟨z, e1, e2⟩ := Option.map_eq_some_iff.mp e
      subst e2
      clear e
      cases p1 with
      | int i =>
        cases p2 with
        | int j =>
          simp only [binP] at e1
          cases e1
          cases r1
          cases r2
          exact op_add pins s σ H _ _ v u Q I rx ry ⟨i, j, rfl, rfl, fin0 rh q (Rp.int _)⟩
        | _ => simp [binP] at e1
      | tuple xs =>
        cases p2 with
        | tuple ys =>
          simp only [binP] at e1
          split at e1
          · rename_i hz
            cases e1
            cases r1 with
            | tup h1 z1 q1 =>
              cases r2 with
              | tup h2 z2 q2 =>
                rename_i a vs b ws
                refine op_catA pins s σ H _ _ v u Q I rx ry ⟨a, b, vs, ws, rfl, rfl, h1.sq, h2.sq, by rw [q1.length, q2.length]; exact hz, fun e0 => ?_, fun _ e0 => ?_, fun _ _ p hp => ?_⟩
                · have e3 := q1.nil_iff.mp e0
                  subst e3
                  exact fin0 rh q (Rp.tup h2 z2 q2)
                · have e3 := q2.nil_iff.mp e0
                  subst e3
                  refine fin0 rh q ?_
                  rw [List.append_nil]
                  exact Rp.tup h1 z1 q1
                · exact q _ μ _ (later_fresh hp _) (rh.fresh hp _) (rp_tup rh hp (q1.append q2) (by rw [List.length_append]; exact hz))
          · cases e1
        | _ => simp [binP] at e1
      | list xs =>
        cases p2 with
        | list ys =>
          simp only [binP] at e1
          split at e1
          · rename_i hz
            cases e1
            cases r1 with
            | lst h1 z1 q1 =>
              cases r2 with
              | lst h2 z2 q2 =>
                rename_i a vs b ws
                refine op_catR pins s σ H _ _ v u Q I rx ry ⟨a, b, vs, ws, rfl, rfl, h1.1, h2.1, by rw [q1.length, q2.length]; exact hz, fun p hp => ?_⟩
                exact q _ μ _ (later_fresh hp _) (rh.fresh hp _) (rp_lst rh hp (q1.append q2) (by rw [List.length_append]; exact hz))
          · cases e1
        | _ => simp [binP] at e1
      | _ => cases p2 <;> simp [binP] at e1
theorem sE_neg {a : Expr} {ca : CE} {pos : Pos} (ha : PE X a (tE X.kw (evE C ca))) : PE X (.UnaryOp .USub a pos) (tE X.kw (evE C (.neg ca))) := by
  refine PE_wk (pe_un un_neg ha) fun σ H Q ⟨Z, μ, ρ, S, rh, re, o⟩ => ?_
  simp only [evE] at o
  refine ⟨Z, μ, ρ, S, rh, re, o.bind fun d S1 v μ1 H1 _ l1 rh1 r1 o1 => ?_⟩
  split at o1
  · cases r1
    exact ⟨_, rfl, o1.ok rh1 (Rp.int _)⟩
  · exact o1.elim
/-! ### chains of two comparisons -/
theorem chain_rd {o o' : COp} {a b c : CE} {σ : St} {H : Hp} {Q : VK} (h : tE X.kw (evE C (.chn o o' a b c)) σ H Q) :
    tChain (fun x y H Q => ∃ Z μ S dx dy d, RelH X.kw Z μ S H ∧ RelD X.kw Z μ S H dx x ∧ RelD X.kw Z μ S H dy y ∧ cmpF o S dx dy = some d ∧ ∀ v μ' H', Later μ S H μ' S H' → RelH X.kw Z μ' S H' → RelD X.kw Z μ' S H' d v → Q v H')
      (fun x y H Q => ∃ Z μ S dx dy d, RelH X.kw Z μ S H ∧ RelD X.kw Z μ S H dx x ∧ RelD X.kw Z μ S H dy y ∧ cmpF o' S dx dy = some d ∧ ∀ v μ' H', Later μ S H μ' S H' → RelH X.kw Z μ' S H' → RelD X.kw Z μ' S H' d v → Q v H')
      (tE X.kw (evE C a)) (tE X.kw (evE C b)) (tE X.kw (evE C c)) σ H Q := by
  obtain ⟨Z, μ, ρ, S, rh, re, o⟩ := h
  simp only [evE] at o
  refine ⟨Z, μ, ρ, S, rh, re, o.bind fun dx S1 x μ1 H1 _ l1 rh1 r1 o1 => ?_⟩
  refine ⟨Z, μ1, ρ, S1, rh1, re.later l1, o1.bind fun dy S2 y μ2 H2 _ l2 rh2 r2 o2 => ?_⟩
  split at o2
  · rename_i e
    refine ⟨Z, μ2, S2, dx, dy, dB true, rh2, r1.later l2, r2, by simp [cmpF, e], fun v μ3 H3 l3 rh3 rv => ?_⟩
    cases rv
    refine ⟨true, rfl, ?_⟩
    simp only [if_true]
    refine ⟨Z, μ3, ρ, S2, rh3, ((re.later l1).later l2).later l3, (o2.later l3).bind fun dz S4 z μ4 H4 _ l4 rh4 r4 o4 => ?_⟩
    cases q : cmpD S4 o' dy dz with
    | none => rw [q] at o4; exact o4.elim
    | some t =>
      rw [q] at o4
      exact ⟨Z, μ4, S4, dy, dz, dB t, rh4, (r2.later l3).later l4, r4, by simp [cmpF, q], o4⟩
  · rename_i e
    refine ⟨Z, μ2, S2, dx, dy, dB false, rh2, r1.later l2, r2, by simp [cmpF, e], fun v μ3 H3 l3 rh3 rv => ?_⟩
    cases rv
    refine ⟨false, rfl, ?_⟩
    simp only [Bool.false_eq_true, if_false]
    exact o2 _ μ3 H3 l3 rh3 (Rp.bl _)
  · exact o2.elim
theorem sE_chn {op op' : CmpOp} {o o' : COp} {a b c : Expr} {ca cb cc : CE} {pos : Pos} (ho : DOp X (compareOp op) (cmpF o)) (ho' : DOp X (compareOp op') (cmpF o')) (hm : lastMarks [op, op'] [b, c] = false) (ha : PE X a (tE X.kw (evE C ca))) (hb : PE X b (tE X.kw (evE C cb))) (hc : PE X c (tE X.kw (evE C cc))) :
    PE X (.Compare a [op, op'] [b, c] pos) (tE X.kw (evE C (.chn o o' ca cb cc))) := PE_wk (pe_chain ho ho' ha hb hc hm) fun σ H Q h => chain_rd h
theorem sT_chn {op op' : CmpOp} {o o' : COp} {a b c : Expr} {ca cb cc : CE} {pos : Pos} (ho : DOp X (compareOp op) (cmpF o)) (ho' : DOp X (compareOp op') (cmpF o')) (hm : lastMarks [op, op'] [b, c] = false) (ha : PE X a (tE X.kw (evE C ca))) (hb : PE X b (tE X.kw (evE C cb))) (hc : PE X c (tE X.kw (evE C cc))) :
    PT X (.Compare a [op, op'] [b, c] pos) (tTs X.kw (evB C (.chn o o' ca cb cc))) := PT_wk (pt_chain ho ho' ha hb hc hm) fun σ H Q h => chain_rd (tE_of_tT h)

/-! ### subscripts, slices -/
theorem RpAll.atI {K : PySem.W.Frag} {H : Hp} {L : Addr → Prop} {vs : List V} {ps : List PyData} {i : Int} {p : PyData} (r : RpAll K H L vs ps) (e : L2.atI ps i = some p) : ∃ v, L2.atI vs i = some v ∧ Rp K H L v p := by
  unfold L2.atI at e ⊢
  rw [r.length]
  cases q : ixN ps.length i with
  | none => rw [q] at e; cases e
  | some j =>
    rw [q] at e
    exact r.get e
theorem dic_at {K : Kw} {Z : Addr → Prop} {μ : List Addr} {S : Hs} {H : Hp} {x : Str} : ∀ {kvs : List (Str × D)} {qs : List (Key × V)}, Paired (fun (p : Str × D) (q : Key × V) => q.1 = .inr p.1 ∧ RelD K Z μ S H p.2 q.2) kvs qs →
    (kvs.lookup x = none ∧ valV qs (.inr x) = none) ∨ ∃ d v, kvs.lookup x = some d ∧ valV qs (.inr x) = some v ∧ RelD K Z μ S H d v
  | _, _, .nil => .inl ⟨rfl, rfl⟩
  | _, _, .cons (a := p) (b := q) r t => by
    obtain ⟨p1, p2⟩ := p
    obtain ⟨q1, q2⟩ := q
    simp only at r
    obtain ⟨rfl, r2⟩ := r
    by_cases h : x = p1
    · subst h
      exact .inr ⟨p2, q2, by simp [List.lookup_cons], valV_pos rfl, r2⟩
    · have e1 : (x == p1) = false := by simpa using h
      have e2 : ¬ (Sum.inr p1 : Key) = Sum.inr x := fun e => h (Sum.inr.inj e).symm
      rcases dic_at (x := x) t with ⟨h1, h2⟩ | ⟨d, v, h1, h2, h3⟩
      · exact .inl ⟨by simp [List.lookup_cons, e1, h1], by rw [valV_neg e2]; exact h2⟩
      · exact .inr ⟨d, v, by simp [List.lookup_cons, e1, h1], by rw [valV_neg e2]; exact h2, h3⟩
theorem ix_tab {k : Nat} (hr : Room k X.A) : IxR X (fun x y H Q => ∃ Z μ S dx dy d, RelH X.kw Z μ S H ∧ RelD X.kw Z μ S H dx x ∧ RelD X.kw Z μ S H dy y ∧ idxT S dx dy = some d ∧ ∀ v, RelD X.kw Z μ S H d v → Q v H) := by
  intro value slice pins s σ H x y v u Q I rx ry h hs
  obtain ⟨Z, μ, S, dx, dy, d, rh, r1, r2, e, q⟩ := h
  have un := hr.un
  have room : (nestedKind X.prog X.w).room X.A.in1 := by show X.A.units + 1 + 8 < cLine; omega
  have go : ∀ {δ : Type} {Vr : δ → V → Prop} {kvs : List (PyData × δ)} {p : PyData} {a : Addr} {dd : δ}, TabAt X.kw H (Lv Z μ S) Vr kvs a → keyOk p = true → RelD X.kw Z μ S H (.dat p) y → tabGet kvs p = some dd → v = .ref a → (∀ w, Vr dd w → Q w H) →
      wpAny (model X.prog X.w) X.A (subscriptTail value slice v u) (EP X pins σ Q) X.xe s := fun {δ Vr kvs p a dd} tb hk rp eg ev hq => by
    subst ev
    obtain ⟨_, m, xs, dct, pr⟩ := tb.dict I
    obtain ⟨ab, rfl, rfl, hkey⟩ := key_at I rp ry hk
    rcases tab_at hk pr with ⟨h1, _⟩ | ⟨d', w, b, u', h1, h2, h3, h4⟩
    · rw [eg] at h1; cases h1
    · rw [eg] at h1
      cases h1
      exact tail_any dct.typeIs PySem.F.slot_dict_getitem.lookup (wpAny_getItem_heap room hkey dct h2 ⟨w, H, I.tok _, h3, hq w h4⟩) hs
  cases dx with
  | dct kvs =>
    cases dy with
    | dat p =>
      simp only [idxT] at e
      split at e
      · rename_i hk
        obtain ⟨z, e1, e2⟩ := Option.map_eq_some_iff.mp e
        obtain ⟨a, rfl, _, tb⟩ := r1
        cases rx
        exact go tb hk r2 e1 rfl fun w hw => q w (by rw [← e2]; exact hw)
      · cases e
    | _ => simp [idxT] at e
  | ref n =>
    cases dy with
    | dat p =>
      obtain ⟨a, rfl, ha⟩ := r1
      cases rx
      simp only [idxT] at e
      split at e
      · rename_i kvs hn
        split at e
        · rename_i hk
          have tb : TabAt X.kw H (Lv Z μ S) (RelD X.kw Z μ S H) kvs a := rh.ob n _ a hn ha
          exact go tb hk r2 e rfl q
        · cases e
      · rename_i kvs z hn
        obtain ⟨qs, h1, h2, h3⟩ := rh.ob n _ a hn ha
        rcases dic_at (x := z) h3 with ⟨e1, _⟩ | ⟨d', w, e1, e2, r⟩
        · rw [e] at e1; cases e1
        · rw [e] at e1
          cases e1
          cases r2
          have g : DGet H a (kV (.inr z)) (some w) := by rw [← e2]; exact DGet.k h1
          exact tail_any (dict_typeIs I g) PySem.F.slot_dict_getitem.lookup (d_getItem (by omega) I g ry fun w' s3 I3 rw' => ⟨w, H, I3, rw', q w r⟩) hs
      · cases e
    | _ => simp [idxT] at e
  | _ => simp [idxT] at e
theorem sE_idx {k : Nat} (hr : Room k X.A) {a b : Expr} {ca cb : CE} {pos : Pos} (hs : PlainIx b) (ha : PE X a (tE X.kw (evE C ca))) (hb : PE X b (tE X.kw (evE C cb))) : PE X (.Subscript a b pos) (tE X.kw (evE C (.idx ca cb))) := by
  refine PE_wk (pe_ix (IxR.or ix_seq (ix_tab hr)) ha hb hs) fun σ H Q ⟨Z, μ, ρ, S, rh, re, o⟩ => ?_
  simp only [evE] at o
  refine ⟨Z, μ, ρ, S, rh, re, o.bind fun dx S1 x μ1 H1 _ l1 rh1 r1 o1 => ?_⟩
  refine ⟨Z, μ1, ρ, S1, rh1, re.later l1, o1.bind fun dy S2 y μ2 H2 _ l2 rh2 r2 o2 => ?_⟩
  have r1' := r1.later l2
  unfold idxD at o2
  cases eT : idxT S2 dx dy with
  | some d =>
    rw [eT] at o2
    exact .inr ⟨Z, μ2, S2, dx, dy, d, rh2, r1', r2, eT, fun v r => o2.ok rh2 r⟩
  | none =>
  rw [eT] at o2
  refine .inl ?_
  unfold idxR at o2
  simp only at o2
  split at o2
  · rename_i p q e hx0
    cases e3 : idxP p q with
    | none => rw [e3] at o2; exact o2.elim
    | some z =>
      rw [e3] at o2
      cases p with
      | list xs =>
        cases q with
        | int i =>
          obtain ⟨a, vs, rfl, h1, h2, _⟩ := rd_lst rh2 r1' e
          cases r2
          obtain ⟨v, h3, h4⟩ := h2.atI e3
          exact .inl ⟨a, vs, i, v, rfl, rfl, h1, h3, o2.ok rh2 h4⟩
        | _ => simp [idxP] at e3
      | tuple xs =>
        cases q with
        | int i =>
          obtain ⟨a, vs, rfl, h1, h2, _⟩ := rd_tup r1' e
          cases r2
          obtain ⟨v, h3, h4⟩ := h2.atI e3
          exact .inr (.inl ⟨a, vs, i, v, rfl, rfl, h1.sq, h3, o2.ok rh2 h4⟩)
        | _ => simp [idxP] at e3
      | _ => cases q <;> simp [idxP] at e3
  · exact o2.elim
theorem SlR_wk {r r' : V → Option Int → Option Int → Hp → VK → Prop} (h : SlR X r) (w : ∀ x lo hi H Q, r' x lo hi H Q → r x lo hi H Q) : SlR X r' :=
  fun pins s σ H x v vl vu lo hi sl Q I rx hs pl pu q => h pins s σ H x v vl vu lo hi sl Q I rx hs pl pu (w _ _ _ _ _ q)
def tO (K : Kx) (m : En → Hs → R (Option Int)) : St → Hp → (Option Int → Hp → Prop) → Prop := fun σ H Q => ∃ Z μ ρ S, RelH K Z μ S H ∧ RelE K Z μ S H ρ σ ∧ Out K Z (fun _ _ _ a b => a = b) μ S H (m ρ S) Q
theorem PO_wk {e : Option Expr} {t t' : St → Hp → (Option Int → Hp → Prop) → Prop} (h : PO X e t) (w : ∀ σ H Q, t' σ H Q → t σ H Q) : PO X e t' := ⟨fun pins s σ H Q I hw => h.run pins s σ H Q I (w σ H Q hw)⟩
theorem sO_none : PO X none (tO X.kw (evO C .none)) := PO_wk po_none fun σ H Q ⟨Z, μ, ρ, S, rh, re, o⟩ => Out.ok (Rl := fun _ _ _ a b => a = b) o rh rfl
theorem sO_some {e : Expr} {c : CE} (h : PE X e (tE X.kw (evE C c))) : PO X (some e) (tO X.kw (evO C (.some c))) := by
  refine PO_wk (po_some h) fun σ H Q ⟨Z, μ, ρ, S, rh, re, o⟩ => ?_
  simp only [evO] at o
  refine ⟨Z, μ, ρ, S, rh, re, Out.bind (Rl2 := fun _ _ _ a b => a = b) o fun d S1 v μ1 H1 _ l1 rh1 r1 o1 => ?_⟩
  split at o1
  · cases r1
    exact ⟨_, rfl, Out.ok (Rl := fun _ _ _ a b => a = b) o1 rh1 rfl⟩
  · exact o1.elim
theorem sE_slc {a : Expr} {lo hi : Option Expr} {ca : CE} {cl ch : CO} {p2 pos : Pos} (ha : PE X a (tE X.kw (evE C ca))) (hl : PO X lo (tO X.kw (evO C cl))) (hh : PO X hi (tO X.kw (evO C ch))) : PE X (.Subscript a (.Slice lo hi none p2) pos) (tE X.kw (evE C (.slc ca cl ch))) := by
  refine PE_wk (pe_slice (sl_list.or sl_tupA) ha hl hh) fun σ H Q ⟨Z, μ, ρ, S, rh, re, o⟩ => ?_
  simp only [evE] at o
  refine ⟨Z, μ, ρ, S, rh, re, o.bind fun dx S1 x μ1 H1 _ l1 rh1 r1 o1 => ?_⟩
  refine ⟨Z, μ1, ρ, S1, rh1, re.later l1, o1.bind (Rl := fun _ _ _ a b => a = b) fun i S2 i' μ2 H2 _ l2 rh2 r2 o2 => ?_⟩
  refine ⟨Z, μ2, ρ, S2, rh2, (re.later l1).later l2, o2.bind (Rl := fun _ _ _ a b => a = b) fun j S3 j' μ3 H3 _ l3 rh3 r3 o3 => ?_⟩
  subst r2 r3
  have r1' := (r1.later l2).later l3
  cases dx with
  | ref n => exact o3.elim
  | scr ns => exact o3.elim
  | dct kvs => exact o3.elim
  | exv x => exact o3.elim
  | dat p =>
    cases p with
    | list xs =>
      cases r1' with
      | lst h1 z1 q1 =>
        rename_i b vs
        refine .inl ⟨b, vs, rfl, h1.sq, fun p hp => ?_⟩
        exact o3 _ μ3 _ (later_fresh hp _) (rh3.fresh hp _) (rp_lst rh3 hp (q1.cut i j) (Nat.le_trans (cut_length xs i j) z1))
    | tuple xs =>
      cases r1' with
      | tup h1 z1 q1 =>
        rename_i b vs
        refine .inr ⟨b, vs, rfl, h1.sq, fun e => ?_, fun _ p hp => ?_⟩
        · refine o3.ok rh3 ?_
          have ex : LC.cut xs i j = xs := by
            unfold LC.cut
            rw [← q1.length, e.1, e.2, q1.length]
            simp
          show Rp _ _ _ _ (.tuple (LC.cut xs i j))
          rw [ex]
          exact Rp.tup h1 z1 q1
        · exact o3 _ μ3 _ (later_fresh hp _) (rh3.fresh hp _) (rp_tup rh3 hp (q1.cut i j) (Nat.le_trans (cut_length xs i j) z1))
    | _ => exact o3.elim
end
end L2.LC

/-! LC: built-ins called. -/
namespace L2.LC
open PySem PySem.Spec PyProof.Rows PySem.SeqAt
section
variable {X : Cx} {C : Calls}
def DCall (X : Cx) (f : Value) (F : Hs → List D → Option D) : Prop :=
  CallR X f fun xs H Q => ∃ Z μ S ds d, RelH X.kw Z μ S H ∧ RelDs X.kw Z μ S H ds xs ∧ F S ds = some d ∧ ∀ v μ' H', Later μ S H μ' S H' → RelH X.kw Z μ' S H' → RelD X.kw Z μ' S H' d v → Q v H'
theorem CallR_wk {f : Value} {r r' : List V → Hp → VK → Prop} (h : CallR X f r) (w : ∀ xs H Q, r' xs H Q → r xs H Q) : CallR X f r' := fun pins s σ H xs us Q I rx q => h pins s σ H xs us Q I rx (w xs H Q q)
theorem call_rd {F : Hs → List D → Option D} {cs : CEs} {σ : St} {H : Hp} {Q : VK} (o : tE X.kw (fun ρ h => (evEs C cs ρ h).bind fun ds h1 => R.of (F h1 ds) h1) σ H Q) :
    tCB (fun xs H Q => ∃ Z μ S ds d, RelH X.kw Z μ S H ∧ RelDs X.kw Z μ S H ds xs ∧ F S ds = some d ∧ ∀ v μ' H', Later μ S H μ' S H' → RelH X.kw Z μ' S H' → RelD X.kw Z μ' S H' d v → Q v H') (tAs X.kw (evEs C cs)) σ H Q := by
  obtain ⟨Z, μ, ρ, S, rh, re, o⟩ := o
  refine ⟨Z, μ, ρ, S, rh, re, o.bind fun ds S1 vs μ1 H1 _ l1 rh1 r1 o1 => ?_⟩
  cases q : F S1 ds with
  | none => rw [q] at o1; exact o1.elim
  | some d =>
    rw [q] at o1
    exact ⟨Z, μ1, S1, ds, d, rh1, r1, q, o1⟩
theorem back_any {env : Env} {pos : Pos} {es : List Expr} (h : (es.all notStar) = true) : (backTo pos (starEach es env)).any (·.1) = false := by
  have q := star_none (env := env) h
  generalize starEach es env = l at q ⊢
  cases l with
  | nil => rfl
  | cons x r =>
    first
      | (simpa [backTo, List.any_map, Function.comp_def] using q)
      | (simp [backTo] at q ⊢; exact q)
theorem sE_bfB {x : Str} {id : String} {b : BF} {p pos : Pos} {e : Expr} {es : List Expr} {cs : CEs} (hc : DCall X (.builtin id) (fun h ds => bfD h b ds)) (hg : Gl X x) (hm : X.mg x = none) (hv : bootBuiltins x = some (.builtin id)) (ha : PA X (e :: es) (tAs X.kw (evEs C cs)))
    (hs : notStar e = true) (hss : es.all notStar = true) (hn : x ≠ "__name__") (hdb : (x == ("__debug__" : Str)) = false) : PE X (.Call (.Name x p) (e :: es) [] pos) (tE X.kw (evE C (.bf b cs))) := by
  refine PE_wk (pe_callB hc hg hm hv ha hn hdb (star_cons hs) (back_any hss)) fun σ H Q ⟨Z, μ, ρ, S, rh, re, o⟩ => call_rd ⟨Z, μ, ρ, S, rh, re, ?_⟩
  simp only [evE] at o
  exact o
theorem sE_bfT {x : Str} {T : String} {b : BF} {p pos : Pos} {e : Expr} {es : List Expr} {cs : CEs} (hc : DCall X (.type T) (fun h ds => bfD h b ds)) (hg : Gl X x) (hm : X.mg x = none) (hv : bootBuiltins x = some (.type T)) (ha : PA X (e :: es) (tAs X.kw (evEs C cs)))
    (hs : notStar e = true) (hss : es.all notStar = true) (hn : x ≠ "__name__") (hdb : (x == ("__debug__" : Str)) = false) : PE X (.Call (.Name x p) (e :: es) [] pos) (tE X.kw (evE C (.bf b cs))) := by
  refine PE_wk (pe_callTy hc hg hm hv ha hn hdb (star_cons hs) (back_any hss)) fun σ H Q ⟨Z, μ, ρ, S, rh, re, o⟩ => call_rd ⟨Z, μ, ρ, S, rh, re, ?_⟩
  simp only [evE] at o
  exact o
/-! ### each of them -/
theorem bf_one {S : Hs} {b : BF} {ds : List D} {d : D} (e : bfD S b ds = some d) : ∃ ps z, rds S ds = some ps ∧ bfP b ps = some z ∧ d = .dat z := by
  unfold bfD at e
  split at e
  · rename_i ps h
    obtain ⟨z, e1, e2⟩ := Option.map_eq_some_iff.mp e
    exact ⟨ps, z, h, e1, e2.symm⟩
  · cases e
theorem rds_one {K : Kw} {Z : Addr → Prop} {μ : List Addr} {S : Hs} {H : Hp} {ds : List D} {vs : List V} {p : PyData} (r : RelDs K Z μ S H ds vs) (e : rds S ds = some [p]) : ∃ d v, ds = [d] ∧ vs = [v] ∧ RelD K Z μ S H d v ∧ rd S d = some p := by
  cases r with
  | nil => cases e
  | @cons d v ds vs a b =>
    simp only [rds] at e
    split at e
    · rename_i q qs h1 h2
      cases e
      cases b with
      | nil => exact ⟨d, v, rfl, rfl, a, h1⟩
      | cons a' b' =>
        simp only [rds] at h2
        split at h2 <;> cases h2
    · cases e
theorem rds_two {K : Kw} {Z : Addr → Prop} {μ : List Addr} {S : Hs} {H : Hp} {ds : List D} {vs : List V} {p q : PyData} (r : RelDs K Z μ S H ds vs) (e : rds S ds = some [p, q]) : ∃ d v d' v', ds = [d, d'] ∧ vs = [v, v'] ∧ RelD K Z μ S H d v ∧ rd S d = some p ∧ RelD K Z μ S H d' v' ∧ rd S d' = some q := by
  cases r with
  | nil => cases e
  | @cons d v ds vs a b =>
    simp only [rds] at e
    split at e
    · rename_i q' qs h1 h2
      cases e
      obtain ⟨d', v', rfl, rfl, h3, h4⟩ := rds_one b h2
      exact ⟨d, v, d', v', rfl, rfl, a, h1, h3, h4⟩
    · cases e
theorem rd_int {K : Kw} {Z : Addr → Prop} {μ : List Addr} {S : Hs} {H : Hp} {d : D} {v : V} {i : Int} (r : RelD K Z μ S H d v) (e : rd S d = some (.int i)) : v = .int i := by
  have := rd_dat e (by simp)
  subst this
  cases r
  rfl
theorem c_len : DCall X (.builtin "len") (fun h ds => bfD h .len ds) := by
  refine CallR_wk call_len_seq fun xs H Q ⟨Z, μ, S, ds, d, rh, r, e, q⟩ => ?_
  obtain ⟨ps, z, e1, e2, rfl⟩ := bf_one e
  change lenP ps = some z at e2
  unfold lenP at e2
  split at e2 <;> first | cases e2 | skip
  · obtain ⟨d, v, rfl, rfl, h1, h2⟩ := rds_one r e1
    obtain ⟨a, vs, rfl, h3, h4, _⟩ := rd_lst rh h1 h2
    refine ⟨a, vs, rfl, .inl h3, fin0 rh q ?_⟩
    rw [h4.length]
    exact Rp.int _
  · obtain ⟨d, v, rfl, rfl, h1, h2⟩ := rds_one r e1
    obtain ⟨a, vs, rfl, h3, h4, _⟩ := rd_tup h1 h2
    refine ⟨a, vs, rfl, .inr h3.sq, fin0 rh q ?_⟩
    rw [h4.length]
    exact Rp.int _
theorem c_int : DCall X (.type "int") (fun h ds => bfD h .int ds) := by
  refine CallR_wk call_int1 fun xs H Q ⟨Z, μ, S, ds, d, rh, r, e, q⟩ => ?_
  obtain ⟨ps, z, e1, e2, rfl⟩ := bf_one e
  change intP ps = some z at e2
  unfold intP at e2
  split at e2 <;> first | cases e2 | skip
  · obtain ⟨d, v, rfl, rfl, h1, h2⟩ := rds_one r e1
    have := rd_int h1 h2
    subst this
    exact .inl ⟨_, rfl, fin0 rh q (Rp.int _)⟩
  · obtain ⟨d, v, rfl, rfl, h1, h2⟩ := rds_one r e1
    have := rd_dat h2 (by simp)
    subst this
    cases h1
    exact .inr ⟨_, rfl, fin0 rh q (Rp.int _)⟩
theorem c_abs : DCall X (.builtin "abs") (fun h ds => bfD h .abs ds) := by
  refine CallR_wk call_abs fun xs H Q ⟨Z, μ, S, ds, d, rh, r, e, q⟩ => ?_
  obtain ⟨ps, z, e1, e2, rfl⟩ := bf_one e
  change absP ps = some z at e2
  unfold absP at e2
  split at e2 <;> first | cases e2 | skip
  · obtain ⟨d, v, rfl, rfl, h1, h2⟩ := rds_one r e1
    have := rd_int h1 h2
    subst this
    exact ⟨_, rfl, fin0 rh q (Rp.int _)⟩
theorem c_min2 (hc : X.calm = true) : DCall X (.builtin "min") (fun h ds => bfD h .min2 ds) := by
  refine CallR_wk (call_min2 hc) fun xs H Q ⟨Z, μ, S, ds, d, rh, r, e, q⟩ => ?_
  obtain ⟨ps, z, e1, e2, rfl⟩ := bf_one e
  change min2P ps = some z at e2
  unfold min2P at e2
  split at e2 <;> first | cases e2 | skip
  · obtain ⟨d, v, d', v', rfl, rfl, h1, h2, h3, h4⟩ := rds_two r e1
    have := rd_int h1 h2
    subst this
    have := rd_int h3 h4
    subst this
    exact ⟨_, _, rfl, fin0 rh q (Rp.int _)⟩
theorem c_max2 (hc : X.calm = true) : DCall X (.builtin "max") (fun h ds => bfD h .max2 ds) := by
  refine CallR_wk (call_max2 hc) fun xs H Q ⟨Z, μ, S, ds, d, rh, r, e, q⟩ => ?_
  obtain ⟨ps, z, e1, e2, rfl⟩ := bf_one e
  change max2P ps = some z at e2
  unfold max2P at e2
  split at e2 <;> first | cases e2 | skip
  · obtain ⟨d, v, d', v', rfl, rfl, h1, h2, h3, h4⟩ := rds_two r e1
    have := rd_int h1 h2
    subst this
    have := rd_int h3 h4
    subst this
    exact ⟨_, _, rfl, fin0 rh q (Rp.int _)⟩
theorem c_tuple : DCall X (.type "tuple") (fun h ds => bfD h .tuple ds) := by
  refine CallR_wk call_tuple_of fun xs H Q ⟨Z, μ, S, ds, d, rh, r, e, q⟩ => ?_
  obtain ⟨ps, z, e1, e2, rfl⟩ := bf_one e
  change tupP ps = some z at e2
  unfold tupP at e2
  split at e2 <;> first | cases e2 | skip
  · obtain ⟨d, v, rfl, rfl, h1, h2⟩ := rds_one r e1
    obtain ⟨a, vs, rfl, h3, h4, h5⟩ := rd_lst rh h1 h2
    exact ⟨a, vs, rfl, .inl ⟨h3, fun l hl => q _ μ _ (later_fresh hl _) (rh.fresh hl _) (rp_tup rh hl h4 h5)⟩⟩
  · obtain ⟨d, v, rfl, rfl, h1, h2⟩ := rds_one r e1
    obtain ⟨a, vs, rfl, h3, h4, h5⟩ := rd_tup h1 h2
    exact ⟨a, vs, rfl, .inr ⟨h3.sq, fin0 rh q (Rp.tup h3 h5 h4)⟩⟩
theorem c_list : DCall X (.type "list") (fun h ds => bfD h .list ds) := by
  refine CallR_wk call_list_of fun xs H Q ⟨Z, μ, S, ds, d, rh, r, e, q⟩ => ?_
  obtain ⟨ps, z, e1, e2, rfl⟩ := bf_one e
  change lstP ps = some z at e2
  unfold lstP at e2
  split at e2 <;> first | cases e2 | skip
  · obtain ⟨d, v, rfl, rfl, h1, h2⟩ := rds_one r e1
    obtain ⟨a, vs, rfl, h3, h4, h5⟩ := rd_lst rh h1 h2
    exact ⟨a, vs, rfl, .inl h3, fun l hl => q _ μ _ (later_fresh hl _) (rh.fresh hl _) (rp_lst rh hl h4 h5)⟩
  · obtain ⟨d, v, rfl, rfl, h1, h2⟩ := rds_one r e1
    obtain ⟨a, vs, rfl, h3, h4, h5⟩ := rd_tup h1 h2
    exact ⟨a, vs, rfl, .inr h3.sq, fun l hl => q _ μ _ (later_fresh hl _) (rh.fresh hl _) (rp_lst rh hl h4 h5)⟩

/-! ### repr -/
theorem c_repr {k : Nat} (hr : Room k X.A) (gd : X.A.guards = some []) : DCall X (.builtin "repr") (fun h ds => bfD h .repr ds) := by
  intro pins s σ H xs us Q I rx h
  obtain ⟨Z, μ, S, ds, d, rh, r, e, q⟩ := h
  obtain ⟨ps, z, e1, e2, rfl⟩ := bf_one e
  change reprP ps = some z at e2
  unfold reprP at e2
  split at e2
  · rename_i p
    obtain ⟨d, v, rfl, rfl, h1, h2⟩ := rds_one r e1
    split at e2
    · rename_i hb
      cases e2
      simp only [Bool.and_eq_true, decide_eq_true_eq, Bool.not_eq_true'] at hb
      obtain ⟨⟨⟨b1, b2⟩, b3⟩, b4⟩ := hb
      obtain ⟨u, rfl, ru⟩ := vals1 rx
      have dp := rd_dp rh h1 h2
      have un := hr.units
      have un2 := hr.un
      have fin : ∀ h' t tk, (∀ b o, s.heap.get? b = some o → h'.get? b = some o) → EP X pins σ Q (.str p.shown t) { s with heap := h', toks := tk } := fun h' t tk k => ⟨.str p.shown, H, I.kept k, ⟨_, rfl⟩, fin0 rh q (Rp.str _)⟩
      obtain ⟨as, hrd⟩ := Dp.reads I p v u dp ru
      cases p with
      | none =>
        cases dp
        cases ru
        exact P.repr_of_none (fin s.heap _ _ fun _ _ e => e)
      | bool b =>
        cases dp
        cases ru
        exact P.repr_of_bool (fin s.heap _ _ fun _ _ e => e)
      | int i =>
        cases dp
        obtain ⟨t, rfl⟩ := ru
        exact P.repr_of_int (by simpa [PyData.showable] using b1) (fin s.heap _ _ fun _ _ e => e)
      | str x =>
        cases dp
        obtain ⟨t, rfl⟩ := ru
        exact P.repr_of_str (fin s.heap _ _ fun _ _ e => e) b4
      | list xs =>
        cases dp
        cases ru
        exact repr_of_reads' hrd b1 (PyData.noDict_hsm b2) gd (by omega) (fun _ _ e => e) fin b4
      | tuple xs =>
        cases dp
        cases ru
        exact repr_of_reads' hrd b1 (PyData.noDict_hsm b2) gd (by omega) (fun _ _ e => e) fin b4
      | dict kvs => simp [PyData.hasDict] at b2
    · cases e2
  · cases e2
/-! ### all, any, isinstance -/
theorem RpAll.bools {K : PySem.W.Frag} {H : Hp} {L : Addr → Prop} : ∀ {vs : List V} {ps : List PyData}, RpAll K H L vs ps → ps.all isBoolD = true → ∃ bs : List Bool, vs = bs.map V.bl ∧ ps = bs.map PyData.bool
  | _, _, .nil, _ => ⟨[], rfl, rfl⟩
  | _, _, .cons a b, h => by
    simp only [List.all_cons, Bool.and_eq_true] at h
    obtain ⟨bs, e1, e2⟩ := RpAll.bools b h.2
    cases a <;> simp [isBoolD] at h
    rename_i b'
    exact ⟨b' :: bs, by simp [e1], by simp [e2]⟩
theorem any_bools (bs : List Bool) : (bs.map PyData.bool).any PyData.truthy = bs.any id := by induction bs <;> simp_all [PyData.truthy]
theorem all_bools (bs : List Bool) : (bs.map PyData.bool).all PyData.truthy = bs.all id := by induction bs <;> simp_all [PyData.truthy]
theorem c_any (hc : X.calm = true) : DCall X (.builtin "any") (fun h ds => bfD h .any ds) := by
  refine CallR_wk (cr_any hc) fun xs H Q ⟨Z, μ, S, ds, d, rh, r, e, q⟩ => ?_
  obtain ⟨ps, z, e1, e2, rfl⟩ := bf_one e
  change anyP ps = some z at e2
  unfold anyP at e2
  split at e2
  · obtain ⟨d, v, rfl, rfl, h1, h2⟩ := rds_one r e1
    obtain ⟨a, vs, rfl, h3, h4, _⟩ := rd_lst rh h1 h2
    split at e2
    · rename_i hb
      cases e2
      obtain ⟨bs, rfl, rfl⟩ := h4.bools hb
      refine ⟨a, bs, rfl, h3, fin0 rh q ?_⟩
      rw [any_bools]
      exact Rp.bl _
    · cases e2
  · cases e2
theorem c_all (hc : X.calm = true) : DCall X (.builtin "all") (fun h ds => bfD h .all ds) := by
  intro pins s σ H xs us Q I rx h
  obtain ⟨Z, μ, S, ds, d, rh, r, e, q⟩ := h
  obtain ⟨ps, z, e1, e2, rfl⟩ := bf_one e
  change allP ps = some z at e2
  unfold allP at e2
  split at e2
  · obtain ⟨d, v, rfl, rfl, h1, h2⟩ := rds_one r e1
    obtain ⟨a, vs, rfl, h3, h4, _⟩ := rd_lst rh h1 h2
    split at e2
    · rename_i hb
      cases e2
      obtain ⟨u, rfl, ru⟩ := vals1 rx
      cases ru
      obtain ⟨its, rv, pl, _⟩ := I.list h3
      obtain ⟨as, hr⟩ := Dp.readsAll I _ _ its h4.dp rv
      refine PySem.W.all_list_data (I.ok.hd hc) pl.isList (by simpa using hr) (DpAll.plain h4.dp) (fun x hx => ?_) fun h' tk kp => ?_
      · have := List.all_eq_true.mp hb x hx
        cases x <;> simp [isBoolD] at this
        simp [PyData.fits63]
      · exact ⟨.bl _, H, I.kept kp, rfl, fin0 rh q (Rp.bl _)⟩
    · cases e2
  · cases e2
def tyName : Ty → String
  | .int => "int"
  | .bool => "bool"
  | .str => "str"
  | .tuple => "tuple"
theorem c_isi (t : Ty) : CallR X (.builtin "isinstance") (fun xs H Q => ∃ x p, xs = [x, .ty (tyName t)] ∧ Dp X.K H x p ∧ Q (.bl (isP t p)) H) := by
  intro pins s σ H xs us Q I rx h
  obtain ⟨x, p, rfl, hd, q⟩ := h
  cases rx with
  | cons r1 r2 =>
    cases r2 with
    | cons r3 r4 =>
      cases r4
      cases r3
      obtain ⟨as, hr⟩ := Dp.reads I p x _ hd r1
      cases t with
      | int => exact PySem.W.isinstance_int_data hr fun tk _ => ⟨.bl _, H, I.tok tk, rfl, q⟩
      | bool => exact PySem.W.isinstance_bool_data hr fun tk _ => ⟨.bl _, H, I.tok tk, rfl, q⟩
      | str => exact PySem.W.isinstance_str_data hr fun tk _ => ⟨.bl _, H, I.tok tk, rfl, q⟩
      | tuple => exact PySem.W.isinstance_tuple_data hr fun tk _ => ⟨.bl _, H, I.tok tk, rfl, q⟩
theorem sE_isi {t : Ty} {tn : Str} {p pt pos : Pos} {e : Expr} {c : CE} (hg : Gl X "isinstance") (hm : X.mg "isinstance" = none) (hv : bootBuiltins "isinstance" = some (.builtin "isinstance")) (hg2 : Gl X tn) (hm2 : X.mg tn = none) (hv2 : bootBuiltins tn = some (.type (tyName t)))
    (hn2 : tn ≠ "__name__") (hd2 : (tn == ("__debug__" : Str)) = false) (he : PE X e (tE X.kw (evE C c))) (hs : notStar e = true) : PE X (.Call (.Name "isinstance" p) [e, .Name tn pt] [] pos) (tE X.kw (evE C (.isi t c))) := by
  refine PE_wk (pe_callB (c_isi t) hg hm hv (pa_cons he (pa_cons (pe_bltn (v := .ty (tyName t)) hg2 hm2 hv2 rfl hn2 hd2) pa_nil) (star_cons hs)) (by decide) (by decide) (star_cons hs) (back_any (by rfl))) fun σ H Q ⟨Z, μ, ρ, S, rh, re, o⟩ => ?_
  simp only [evE] at o
  refine ⟨Z, μ, ρ, S, rh, re, o.bind fun d S1 v μ1 H1 _ l1 rh1 r1 o1 => ?_⟩
  cases d with
  | ref n => exact o1.elim
  | scr ns => exact o1.elim
  | dct kvs => exact o1.elim
  | exv x => exact o1.elim
  | dat q =>
    refine ⟨v, q, rfl, Rp.dp r1, ?_⟩
    exact o1.ok rh1 (Rp.bl _)
end
end L2.LC

/-! LC: sorted, min, max. -/
namespace PySem.W
open PySem PySem.Calls PyProof.Rows
section
variable {prog : Program} {w : World} {A : Around} {E : Value → Shared → Prop} {s : Shared}
theorem lc_collect_tuple {l : Addr} {vs : List Value} {Q : List Value → Shared → Prop} (hl : IsTup s.heap l vs.toArray)
    (h : Q vs { s with heap := (s.heap.push (seqObj "list" #[] 0)).update s.heap.objs.size (Obj.mapSeq (· ++ vs.toArray)) }) (hsz : vs.length ≤ sizeLine) :
    wpAny (model prog w) A (collect (.ref l)) Q E s := by
  obtain ⟨o, ho, hc, n, hd⟩ := id hl
  unfold collect
  refine wpAny_bind (wpAny_runValue (codeAny_builtin entry_proto_collect' ?_))
  show wpAny _ _ (do again (.builtin "list.__iadd__" ⟨[← newList [], .ref l], []⟩)) _ _ s
  refine wpAny_bind (wpAny_newList (wpAny_pure ⟨Code.quiet_builtin _ (by decide +kernel), codeAny_builtin entry_list_iadd' ?_⟩))
  show wpAny _ _ (Builtin.List.listExtendWith (.ref s.heap.objs.size) (.ref l) (.ref s.heap.objs.size)) _ _ { s with heap := s.heap.push (seqObj "list" #[] 0) }
  unfold Builtin.List.listExtendWith
  have ho' : (s.heap.push (seqObj "list" #[] 0)).get? l = some o := Heap.get?_push_of_some _ ho
  refine wpAny_bind (wpAny_typeOf (T := "tuple") ⟨o, ho', hc⟩ ?_)
  have ht : (Value.type "tuple" == Value.type "tuple") = true := by rfl
  rw [if_pos (by rw [ht]; simp)]
  refine wpAny_bind (listItems_at ho' hd ?_)
  refine wpAny_bind (listItems_at (xs := #[]) (n := 0) (Heap.get?_push_size _ rfl) rfl ?_)
  rw [if_neg (by simp)]
  refine wpAny_bind (listUpdate_at (xs := #[]) (n := 0) (Heap.get?_push_size _ rfl) rfl ?_ (Nat.zero_le _) (by show (#[] ++ vs.toArray).size ≤ sizeLine + 1; simp only [Array.size_append, List.size_toArray, List.length_nil]; omega))
  refine wpAny_pure ?_
  show wpAny (model prog w) A (do
      let o ← load s.heap.objs.size
      match o.data with
      | .seq xs _ => pure xs.toList
      | _ => unsupported "internal:collect") Q E { s with heap := (s.heap.push (seqObj "list" #[] 0)).update s.heap.objs.size (Obj.mapSeq (· ++ vs.toArray)) }
  refine wpAny_bind (wpAny_load (get?_update_seq (Heap.get?_push_size _ rfl) _) ?_)
  show wpAny _ _ (pure ((#[] : Array Value) ++ vs.toArray).toList) Q E _
  rw [show ((#[] : Array Value) ++ vs.toArray).toList = vs by simp]
  exact wpAny_pure h
theorem lc_sorted_tuple {β : Type} {enc : β → PyData} {Rr : Value → β → Prop} {vs : List Value} {bs : List β} {l : Addr} {Q : Value → Shared → Prop} (hl : IsTup s.heap l vs.toArray) (e : EachIs Rr vs bs) (er : EachIs (fun v b => ∃ as, Reads s.heap v (enc b) as) vs bs) (hal : AllAlike (bs.map enc)) (hk : Sortable (bs.map enc)) (hL : bs.length ≤ sizeLine)
    (hu : ∀ b, b ∈ bs → A.units + 2 + (enc b).depth < cLine) (h : ∀ out, out.length = bs.length → EachIs Rr out (bs.mergeSort (dataLe false enc)) → Q (.ref (s.heap.objs.size + 1)) { s with heap := sortedAll s.heap vs (List.toArray out) }) :
    wpAny (model prog w) A (call (.builtin "sorted") [.ref l]) Q E s := by
  have hL' : vs.length ≤ sizeLine := by rw [e.length]; exact hL
  have er' : EachIs (fun v b => ∃ as, Reads (sortingHeap (copyHeap s.heap vs) (s.heap.objs.size + 1) vs) v (enc b) as) vs bs := er.mono fun _ _ ⟨as, r⟩ => ⟨as, PyProof.Rows.Reads.keeps (fun _ _ => sorting_copy_old) r⟩
  have fin := h _ (by rw [sortVals_length false rfl]; exact e.length) (sortVals_data false e er' hal)
  have S := SortsAt.data (prog := prog) (w := w) (A := A.in1.in1) (s := { s with heap := sortingHeap (copyHeap s.heap vs) (s.heap.objs.size + 1) vs }) (each_map (R := fun v d => ∃ as, Reads (sortingHeap (copyHeap s.heap vs) (s.heap.objs.size + 1) vs) v d as) enc er') hal hk (bound_map hu)
  refine call_function_entry_kw kind_sorted plain_sorted entry_sorted (args_sorted1 _) ?_
  unfold Builtin.«sorted»
  refine wpAny_bind (m := checkCount "sorted" 1 1 _) (wpAny_pure ?_)
  refine wpAny_bind (lc_collect_tuple hl ?_ hL')
  refine wpAny_bind (wpAny_newList ?_ hL')
  have hsz : ((s.heap.push (seqObj "list" #[] 0)).update s.heap.objs.size (Obj.mapSeq (· ++ vs.toArray))).objs.size = s.heap.objs.size + 1 := by
    rw [Heap.size_update, size_push']
  show wpAny _ _ _ _ _ { s with heap := copyHeap s.heap vs }
  rw [hsz]
  refine wpAny_bind (wpAny_holding (wpAny_call_entry_kw slot_list_sort ⟨_, copyHeap_at s.heap vs, rfl⟩ entry_list_sort ?body (args_list_sort _)))
  case body =>
    show wpAny (model prog w) A.in1.in1 (Builtin.«list.sort» ⟨[.ref (s.heap.objs.size + 1)], []⟩) _ _ _
    refine wpAny_mono (list_sort_vals (s := { s with heap := copyHeap s.heap vs }) (P := fun f s' => f = Fin.done (.ret .none) ∧ Q (.ref (s.heap.objs.size + 1)) s') (copyHeap_at s.heap vs) S hL' ⟨rfl, fin⟩) (fun f s' hf => ?_) fun _ _ e => e
    obtain ⟨rfl, hq⟩ := hf
    exact ⟨_, rfl, wpAny_pure ⟨_, rfl, hq⟩⟩
end
end PySem.W
namespace L2.LC
open PySem PySem.Spec PyProof.Rows PySem.SeqAt
section
variable {X : Cx} {C : Calls}

theorem zip_each {K : PySem.W.Frag} {H : Hp} {L : Addr → Prop} : ∀ {vs : List V} {ps : List PyData} {us : List Value}, RpAll K H L vs ps → Vals vs us → PySem.W.EachIs (fun u b => RelV b.1 u) us (vs.zip ps)
  | _, _, _, .nil, .nil => .nil
  | _, _, _, .cons _ b, .cons r t => .cons r (zip_each b t)
theorem zip_reads {pins : List (Addr × Obj)} {σ : St} {H : Hp} {L : Addr → Prop} {s : Shared} (I : Inv X pins σ H s) : ∀ {vs : List V} {ps : List PyData} {us : List Value}, RpAll X.K H L vs ps → Vals vs us → PySem.W.EachIs (fun u b => ∃ as, Reads s.heap u (Prod.snd b) as) us (vs.zip ps)
  | _, _, _, .nil, .nil => .nil
  | _, _, _, .cons a b, .cons r t => .cons (Dp.reads I _ _ _ a.dp r) (zip_reads I b t)
theorem each_vals : ∀ {us : List Value} {bs : List (V × PyData)}, PySem.W.EachIs (fun u (b : V × PyData) => RelV b.1 u) us bs → Vals (bs.map (·.1)) us
  | _, _, .nil => .nil
  | _, _, .cons r t => .cons r (each_vals t)
theorem RpAll.of_mem {K : PySem.W.Frag} {H : Hp} {L : Addr → Prop} : ∀ {bs : List (V × PyData)}, (∀ b ∈ bs, Rp K H L b.1 b.2) → RpAll K H L (bs.map (·.1)) (bs.map (·.2))
  | [], _ => .nil
  | b :: bs, h => .cons (h b (List.mem_cons_self ..)) (RpAll.of_mem fun c hc => h c (List.mem_cons_of_mem _ hc))
theorem RpAll.mem_zip {K : PySem.W.Frag} {H : Hp} {L : Addr → Prop} : ∀ {vs : List V} {ps : List PyData}, RpAll K H L vs ps → ∀ b ∈ vs.zip ps, Rp K H L b.1 b.2
  | _, _, .nil, b, h => by cases h
  | _, _, .cons a r, b, h => by
    rcases List.mem_cons.mp (show b ∈ (_, _) :: _ from h) with rfl | h
    · exact a
    · exact RpAll.mem_zip r b h
theorem RpAll.zip_snd {K : PySem.W.Frag} {H : Hp} {L : Addr → Prop} {vs : List V} {ps : List PyData} (r : RpAll K H L vs ps) : (vs.zip ps).map (·.2) = ps := List.map_snd_zip (by rw [r.length]; exact Nat.le_refl _)
theorem allAlike_ok {xs : List PyData} (h : allAlike xs = true) : PySem.W.AllAlike xs := fun d hd d' hd' => List.all_eq_true.mp (List.all_eq_true.mp h d hd) d' hd'
theorem sortable_ok {xs : List PyData} (h : sortable xs = true) : PySem.W.Sortable xs := by
  unfold sortable at h
  rw [Bool.or_eq_true] at h
  rcases h with h | h
  · refine .inl fun d hd => ?_
    have := List.all_eq_true.mp h d hd
    split at this
    · exact ⟨_, _, rfl⟩
    · cases this
  · refine .inr fun d hd => ?_
    have := List.all_eq_true.mp h d hd
    split at this
    · cases this
    · cases this
    · rename_i h1 h2
      exact ⟨fun e => h2 e, fun xs e => h1 xs e⟩
theorem depth_mem : ∀ {xs : List PyData} {x : PyData}, x ∈ xs → x.depth ≤ PyData.depthAll xs
  | y :: ys, x, h => by
    rcases List.mem_cons.mp h with rfl | h
    · simp [PyData.depthAll]; omega
    · have := depth_mem h
      simp [PyData.depthAll]; omega
theorem sort_fin {K : PySem.W.Frag} {H : Hp} {L : Addr → Prop} {vs : List V} {ps : List PyData} (r : RpAll K H L vs ps) :
    RpAll K H L (((vs.zip ps).mergeSort (PySem.W.dataLe false Prod.snd)).map (·.1)) (ps.mergeSort (PySem.W.dataLe false id)) := by
  have h := RpAll.of_mem (K := K) (H := H) (L := L) (bs := (vs.zip ps).mergeSort (PySem.W.dataLe false Prod.snd)) fun b hb => r.mem_zip b ((List.mergeSort_perm _ _).mem_iff.mp hb)
  have e : ((vs.zip ps).mergeSort (PySem.W.dataLe false Prod.snd)).map (·.2) = ps.mergeSort (PySem.W.dataLe false id) := by
    have q := PySem.W.sort_maps (r := PySem.W.dataLe false (Prod.snd : V × PyData → PyData)) (s := PySem.W.dataLe false id) (fun b : V × PyData => b.2) (l := vs.zip ps) (fun _ _ _ _ => rfl)
    rw [q, r.zip_snd]
  rw [e] at h
  exact h
/-- a call that makes a new list -/
def MCall (X : Cx) (f : Value) (b : BF) : Prop :=
  CallR X f fun xs H Q => ∃ Z μ S ds qs, RelH X.kw Z μ S H ∧ RelDs X.kw Z μ S H ds xs ∧ bfD S b ds = some (dL qs) ∧ ∀ p vs, H p = none → RpAll X.K H (Lv Z μ S) vs qs → qs.length ≤ sizeLine → Q (.ref p) (upd H p (.lst vs))
theorem m_list : MCall X (.type "list") .list := by
  refine CallR_wk call_list_of fun xs H Q ⟨Z, μ, S, ds, qs, rh, r, e, q⟩ => ?_
  obtain ⟨ps, z, e1, e2, e0⟩ := bf_one e
  change lstP ps = some z at e2
  cases e0
  unfold lstP at e2
  split at e2 <;> first | cases e2 | skip
  · obtain ⟨d, v, rfl, rfl, h1, h2⟩ := rds_one r e1
    obtain ⟨a, vs, rfl, h3, h4, h5⟩ := rd_lst rh h1 h2
    exact ⟨a, vs, rfl, .inl h3, fun l hl => q l vs hl h4 h5⟩
  · obtain ⟨d, v, rfl, rfl, h1, h2⟩ := rds_one r e1
    obtain ⟨a, vs, rfl, h3, h4, h5⟩ := rd_tup h1 h2
    exact ⟨a, vs, rfl, .inr h3.sq, fun l hl => q l vs hl h4 h5⟩
theorem m_sorted {k : Nat} (hr : Room k X.A) : MCall X (.builtin "sorted") .sorted := by
  intro pins s σ H xs us Q I rx h
  obtain ⟨Z, μ, S, ds, qs, rh, r, e, q⟩ := h
  obtain ⟨ps, z, e1, e2, e0⟩ := bf_one e
  change sortP ps = some z at e2
  cases e0
  unfold sortP at e2
  simp only [kSort_eq] at e2
  have fin : ∀ {its : List Value} {vs : List V} {ps : List PyData} (out : List Value), RpAll X.K H (Lv Z μ S) vs ps → ps.length ≤ sizeLine → out.length = (vs.zip ps).length → PySem.W.EachIs (fun u (b : V × PyData) => RelV b.1 u) out ((vs.zip ps).mergeSort (PySem.W.dataLe false Prod.snd)) →
      (∀ p vs', H p = none → RpAll X.K H (Lv Z μ S) vs' (ps.mergeSort (PySem.W.dataLe false id)) → (ps.mergeSort (PySem.W.dataLe false id)).length ≤ sizeLine → Q (.ref p) (upd H p (.lst vs'))) → EP X pins σ Q (.ref (s.heap.objs.size + 1)) { s with heap := sortedAll s.heap its (List.toArray out) } := fun {its vs ps} out hp hz hl he q => by
    obtain ⟨ep, he'⟩ := PyProof.Rows.sortedAll_at s.heap its (List.toArray out)
    have hn : H (s.heap.objs.size + 1) = none := I.hok.fresh (Nat.le_succ _)
    have hlen : (((vs.zip ps).mergeSort (PySem.W.dataLe false Prod.snd)).map (·.1)).length ≤ sizeLine := by
      rw [List.length_map, List.length_mergeSort, List.length_zip, hp.length, Nat.min_self]; exact hz
    refine ⟨.ref _, upd H (s.heap.objs.size + 1) (.lst (((vs.zip ps).mergeSort (PySem.W.dataLe false Prod.snd)).map (·.1))), I.laid (t' := s.toks) (fun _ _ => PyProof.Rows.sortedAll_old) (Nat.le_succ _) ⟨hlen, out, ep, each_vals he, he'⟩, rfl, ?_⟩
    exact q _ _ hn (sort_fin hp) (by rw [List.length_mergeSort]; exact hz)
  have units : ∀ {vs : List V} {ps : List PyData}, PyData.depthAll ps ≤ 100 → ∀ b ∈ vs.zip ps, X.A.units + 2 + (Prod.snd b).depth < cLine := fun {vs ps} hd b hb => by
    have h1 := depth_mem (List.of_mem_zip hb).2
    have h2 := hr.un
    omega
  split at e2
  · obtain ⟨d, v, rfl, rfl, h1, h2⟩ := rds_one r e1
    obtain ⟨a, vs, rfl, h3, h4, h5⟩ := rd_lst rh h1 h2
    split at e2
    · rename_i hb
      cases e2
      unfold sortOk at hb
      simp only [Bool.and_eq_true, decide_eq_true_eq] at hb
      obtain ⟨u, rfl, ru⟩ := vals1 rx
      cases ru
      obtain ⟨its, rv, pl, _⟩ := I.list h3
      refine PySem.W.sorted_data (enc := Prod.snd) pl.isList (zip_each h4 rv) (zip_reads I h4 rv) (by rw [h4.zip_snd]; exact allAlike_ok hb.1.1) (by rw [h4.zip_snd]; exact sortable_ok hb.1.2) (by rw [List.length_zip, h4.length, Nat.min_self]; exact h5) (units hb.2) fun out ho he => ?_
      exact fin out h4 h5 ho he q
    · cases e2
  · obtain ⟨d, v, rfl, rfl, h1, h2⟩ := rds_one r e1
    obtain ⟨a, vs, rfl, h3, h4, h5⟩ := rd_tup h1 h2
    split at e2
    · rename_i hb
      cases e2
      unfold sortOk at hb
      simp only [Bool.and_eq_true, decide_eq_true_eq] at hb
      obtain ⟨u, rfl, ru⟩ := vals1 rx
      cases ru
      obtain ⟨its, rv, pl, _⟩ := I.tuple h3.sq
      refine PySem.W.lc_sorted_tuple (enc := Prod.snd) pl (zip_each h4 rv) (zip_reads I h4 rv) (by rw [h4.zip_snd]; exact allAlike_ok hb.1.1) (by rw [h4.zip_snd]; exact sortable_ok hb.1.2) (by rw [List.length_zip, h4.length, Nat.min_self]; exact h5) (units hb.2) fun out ho he => ?_
      exact fin out h4 h5 ho he q
    · cases e2
  · cases e2

theorem c_sorted {k : Nat} (hr : Room k X.A) : DCall X (.builtin "sorted") (fun h ds => bfD h .sorted ds) := by
  refine CallR_wk (m_sorted hr) fun xs H Q ⟨Z, μ, S, ds, d, rh, r, e, q⟩ => ?_
  obtain ⟨ps, z, e1, e2, rfl⟩ := bf_one e
  have e3 : ∃ qs, z = .list qs := by
    change sortP ps = some z at e2
    unfold sortP at e2
    split at e2
    · split at e2
      · cases e2; exact ⟨_, rfl⟩
      · cases e2
    · split at e2
      · cases e2; exact ⟨_, rfl⟩
      · cases e2
    · cases e2
  obtain ⟨qs, rfl⟩ := e3
  exact ⟨Z, μ, S, ds, qs, rh, r, e, fun p vs hp ra hz => q _ μ _ (later_fresh hp _) (rh.fresh hp _) (rp_lst rh hp ra hz)⟩
theorem minD_mem (x : PyData) : ∀ xs : List PyData, PySem.W.minD x xs ∈ x :: xs := by
  intro xs
  unfold PySem.W.minD
  induction xs generalizing x with
  | nil => simp
  | cons y ys ih =>
    simp only [List.foldl_cons]
    split
    · exact List.mem_cons_of_mem _ (ih y)
    · rcases List.mem_cons.mp (ih x) with h | h
      · rw [h]; exact List.mem_cons_self ..
      · exact List.mem_cons_of_mem _ (List.mem_cons_of_mem _ h)
theorem maxD_mem (x : PyData) : ∀ xs : List PyData, PySem.W.maxD x xs ∈ x :: xs := by
  intro xs
  unfold PySem.W.maxD
  induction xs generalizing x with
  | nil => simp
  | cons y ys ih =>
    simp only [List.foldl_cons]
    split
    · exact List.mem_cons_of_mem _ (ih y)
    · rcases List.mem_cons.mp (ih x) with h | h
      · rw [h]; exact List.mem_cons_self ..
      · exact List.mem_cons_of_mem _ (List.mem_cons_of_mem _ h)
theorem ext_ok {xs : List PyData} (h : extOk xs = true) : PySem.W.AlikeAll xs ∧ PyData.depthAll xs ≤ 100 := by
  unfold extOk at h
  simp only [Bool.and_eq_true, decide_eq_true_eq] at h
  refine ⟨⟨fun x hx y hy => allAlike_ok h.1.1 x hx y hy, fun x hx e => ?_⟩, h.2⟩
  have := List.all_eq_true.mp h.1.2 x hx
  rw [e] at this
  cases this
/-- an item of a list that reads as z, z one of the list's data -/
theorem ext_item {pins : List (Addr × Obj)} {σ : St} {H : Hp} {L : Addr → Prop} {s : Shared} (I : Inv X pins σ H s) {vs : List V} {ps : List PyData} {its : List Value} (h4 : RpAll X.K H L vs ps) (rv : Vals vs its) (hal : PySem.W.AlikeAll ps)
    {i : Nat} {v : Value} {z : PyData} {h' : Heap} {bs : List Addr} (hi : its[i]? = some v) (hz : z ∈ ps) (hr : Reads h' v z bs) (kp : ∀ b o, s.heap.get? b = some o → h'.get? b = some o) : ∃ x, RelV x v ∧ Rp X.K H L x z := by
  have hl : i < ps.length := by
    have := (List.getElem?_eq_some_iff.mp hi).1
    have h1 := rv.length
    have h2 := h4.length
    omega
  obtain ⟨x, hx, rp⟩ := h4.get (List.getElem?_eq_getElem hl)
  obtain ⟨u, hu, ru⟩ := rv.get hx
  rw [hi] at hu
  cases hu
  obtain ⟨as, hr'⟩ := Dp.reads I _ x v rp.dp ru
  have e := PySem.W.alike_unique _ _ _ _ _ (hal.1 _ (List.getElem_mem hl) z hz) (PyProof.Rows.Reads.keeps kp hr') hr
  rw [e] at rp
  exact ⟨x, ru, rp⟩
theorem c_min1 {k : Nat} (hr : Room k X.A) (hc : X.calm = true) : DCall X (.builtin "min") (fun h ds => bfD h .min1 ds) := by
  intro pins s σ H xs us Q I rx h
  obtain ⟨Z, μ, S, ds, d, rh, r, e, q⟩ := h
  obtain ⟨ps, z, e1, e2, rfl⟩ := bf_one e
  change minP ps = some z at e2
  unfold minP at e2
  split at e2
  · obtain ⟨d, v, rfl, rfl, h1, h2⟩ := rds_one r e1
    obtain ⟨a, vs, rfl, h3, h4, h5⟩ := rd_lst rh h1 h2
    split at e2
    · rename_i hb
      cases e2
      obtain ⟨hal, hd⟩ := ext_ok hb
      obtain ⟨u, rfl, ru⟩ := vals1 rx
      cases ru
      obtain ⟨its, rv, pl, _⟩ := I.list h3
      obtain ⟨as, hrs⟩ := Dp.readsAll I _ _ its h4.dp rv
      refine PySem.W.min_list_data (I.ok.hd hc) pl.isList (by simpa using hrs) hal (by have := hr.un; omega) fun i v h' tk bs hi hv kp => ?_
      obtain ⟨x, rx', rp⟩ := ext_item I h4 rv hal (by simpa using hi) (minD_mem _ _) hv kp
      exact ⟨x, H, I.kept kp, rx', fin0 rh q rp⟩
    · cases e2
  · cases e2
theorem c_max1 {k : Nat} (hr : Room k X.A) (hc : X.calm = true) : DCall X (.builtin "max") (fun h ds => bfD h .max1 ds) := by
  intro pins s σ H xs us Q I rx h
  obtain ⟨Z, μ, S, ds, d, rh, r, e, q⟩ := h
  obtain ⟨ps, z, e1, e2, rfl⟩ := bf_one e
  change maxP ps = some z at e2
  unfold maxP at e2
  split at e2
  · obtain ⟨d, v, rfl, rfl, h1, h2⟩ := rds_one r e1
    obtain ⟨a, vs, rfl, h3, h4, h5⟩ := rd_lst rh h1 h2
    split at e2
    · rename_i hb
      cases e2
      obtain ⟨hal, hd⟩ := ext_ok hb
      obtain ⟨u, rfl, ru⟩ := vals1 rx
      cases ru
      obtain ⟨its, rv, pl, _⟩ := I.list h3
      obtain ⟨as, hrs⟩ := Dp.readsAll I _ _ its h4.dp rv
      refine PySem.W.max_list_data (I.ok.hd hc) pl.isList (by simpa using hrs) hal (by have := hr.un; omega) fun i v h' tk bs hi hv kp => ?_
      obtain ⟨x, rx', rp⟩ := ext_item I h4 rv hal (by simpa using hi) (maxD_mem _ _) hv kp
      exact ⟨x, H, I.kept kp, rx', fin0 rh q rp⟩
    · cases e2
  · cases e2
end
end L2.LC

/-! LC: what is walked, targets, comprehensions. -/
namespace L2.LC
open PySem PySem.Spec PyProof.Rows
/-! ### what is walked -/
structure Yields (K : Kw) (Z : Addr → Prop) (J : It) (ds : List D) (μ : List Addr) (S : Hs) (H : Hp) : Prop where
  len : ds.length ≤ sizeLine
  go : ∀ (i : Nat) d μ' S' H', ds[i]? = some d → Later μ S H μ' S' H' → RelH K Z μ' S' H' → J.go i H' ∧ ∀ x H'', J.yld i H' x H'' → Later μ' S' H' μ' S' H'' ∧ RelH K Z μ' S' H'' ∧ RelD K Z μ' S' H'' d x
  stop : ∀ (i : Nat) μ' S' H', ds.length ≤ i → Later μ S H μ' S' H' → RelH K Z μ' S' H' → J.stop i H'
def tI (K : Kx) (m : En → Hs → R (List D)) : TI := fun σ H Rr => ∃ Z μ ρ S, RelH K Z μ S H ∧ RelE K Z μ S H ρ σ ∧
  match m ρ S with
  | .ok ds S1 => ∀ J μ1 H1, Later μ S H μ1 S1 H1 → RelH K Z μ1 S1 H1 → (∀ Z' μ' S' H', Later μ1 S1 H1 μ' S' H' → RelH K Z' μ' S' H' → (∀ a, Z a → Z' a) → (∀ a, Z' a → ¬ Z a → H1 a = none) → Yields K Z' J ds μ' S' H') → Rr J H1
  | .ex x S1 => ∀ cls d μ' H', Later μ S H μ' S1 H' → RelH K Z μ' S1 H' → RelX K (Lv Z μ' S1) H' x cls d → K.xk cls d H'
  | .no => False
theorem PI_wk {X : Cx} {tg it : Expr} {w w' : TI} (h : PI X tg it w) (k : ∀ σ H Rr, w' σ H Rr → w σ H Rr) : PI X tg it w' := ⟨fun pins s σ H Rr I q => h.run pins s σ H Rr I (k σ H Rr q)⟩
section
variable {K : Kw}
/-- what stands is not among what was hidden later -/
theorem fx_hide {H H' : Hp} {Z Z' : Addr → Prop} {μ μ' : List Addr} {S S' : Hs} {a : Addr} {u : HO} (l : Later μ S H μ' S' H') (h : Rd H a u) (nt : noTbl u) (n : ¬ Lv Z μ S a) (hz : ∀ a, Z' a → ¬ Z a → H a = none) : Rd H' a u ∧ ¬ Lv Z' μ' S' a := by
  obtain ⟨h1, h2⟩ := l.rd h nt fun z => n (.inl z)
  refine ⟨h1, fun z => z.elim h2 fun y => ?_⟩
  have e := hz a y fun w => n (.inr w)
  rcases h with h | ⟨o, h⟩ <;> (rw [h] at e; cases e)
mutual
theorem Rp.hide {K : PySem.W.Frag} {H H' : Hp} {Z Z' : Addr → Prop} {μ μ' : List Addr} {S S' : Hs} (l : Later μ S H μ' S' H') (hz : ∀ a, Z' a → ¬ Z a → H a = none) : ∀ {v : V} {p : PyData}, Rp K H (Lv Z μ S) v p → Rp K H' (Lv Z' μ' S') v p
  | _, _, .non => .non
  | _, _, .bl b => .bl b
  | _, _, .int i => .int i
  | _, _, .str x => .str x
  | _, _, .lst h z r => .lst (fx_hide l h.1 trivial h.2 hz) z (RpAll.hide l hz r)
  | _, _, .tup h z r => .tup (h.elim (fun h => .inl (fx_hide l h.1 trivial h.2 hz)) .inr) z (RpAll.hide l hz r)
theorem RpAll.hide {K : PySem.W.Frag} {H H' : Hp} {Z Z' : Addr → Prop} {μ μ' : List Addr} {S S' : Hs} (l : Later μ S H μ' S' H') (hz : ∀ a, Z' a → ¬ Z a → H a = none) : ∀ {vs : List V} {ps : List PyData}, RpAll K H (Lv Z μ S) vs ps → RpAll K H' (Lv Z' μ' S') vs ps
  | _, _, .nil => .nil
  | _, _, .cons a b => .cons (Rp.hide l hz a) (RpAll.hide l hz b)
end
theorem RelD.hide {H H' : Hp} {Z Z' : Addr → Prop} {μ μ' : List Addr} {S S' : Hs} (l : Later μ S H μ' S' H') (hz : ∀ a, Z' a → ¬ Z a → H a = none) {d : D} {v : V} (r : RelD K Z μ S H d v) : RelD K Z' μ' S' H' d v := by
  cases d with
  | dat p => exact Rp.hide l hz r
  | ref n => obtain ⟨a, e, q⟩ := r; exact ⟨a, e, l.at q⟩
  | scr ns => obtain ⟨a, e, z, q⟩ := r; exact ⟨a, e, z, q.elim (fun q => .inl (fx_hide l q.1 trivial q.2 hz)) .inr⟩
  | dct kvs =>
    refine RelD.dctMono r (fun v p y => Rp.hide l hz y) fun a u n e nt => ?_
    have k := l.keep a u e nt fun y => n (.inl y)
    refine ⟨k.1, fun y => y.elim k.2 fun w => ?_⟩
    have := hz a w fun y => n (.inr y)
    rw [e] at this
    cases this
  | exv x =>
    refine RelD.exvMono r (fun v p y => Rp.hide l hz y) fun a u n e nt => ?_
    have k := l.keep a u e nt fun y => n (.inl y)
    refine ⟨k.1, fun y => y.elim k.2 fun w => ?_⟩
    have := hz a w fun y => n (.inr y)
    rw [e] at this
    cases this
theorem RelE.hide {H H' : Hp} {Z Z' : Addr → Prop} {μ μ' : List Addr} {S S' : Hs} (l : Later μ S H μ' S' H') (hz : ∀ a, Z' a → ¬ Z a → H a = none) {ρ : En} {σ : St} (h : RelE K Z μ S H ρ σ) : RelE K Z' μ' S' H' ρ σ :=
  ⟨h.1, fun i d e => let ⟨v, q, r⟩ := h.2 i d e; ⟨v, q, r.hide l hz⟩⟩
theorem RpAll.all_get {K : PySem.W.Frag} {H : Hp} {L : Addr → Prop} {vs : List V} {ps : List PyData} {i : Nat} {x : V} (r : RpAll K H L vs ps) (h : vs[i]? = some x) : ∃ p, ps[i]? = some p ∧ Rp K H L x p := by
  have hl : i < ps.length := by rw [← r.length]; exact (List.getElem?_eq_some_iff.mp h).1
  obtain ⟨v, e, rp⟩ := r.get (List.getElem?_eq_getElem hl)
  rw [h] at e
  cases e
  exact ⟨_, List.getElem?_eq_getElem hl, rp⟩
theorem yields_list {Z : Addr → Prop} {μ : List Addr} {S : Hs} {H : Hp} {a : Addr} {vs : List V} {ps : List PyData} (h : FxL H (Lv Z μ S) a vs) (r : RpAll K H (Lv Z μ S) vs ps) (hz : ps.length ≤ sizeLine) : Yields K Z (Itl K a) (ps.map .dat) μ S H := by
  refine ⟨by simpa using hz, fun i d μ' S' H' e l rh => ?_, fun i μ' S' H' e l rh => ?_⟩
  · rw [List.getElem?_map] at e
    obtain ⟨p, e1, rfl⟩ := Option.map_eq_some_iff.mp e
    obtain ⟨x, hx, rp⟩ := r.get e1
    have h' := h.later l
    refine ⟨⟨vs, x, h'.sq, hx⟩, fun y H'' hy => ?_⟩
    obtain ⟨rfl, hy⟩ := hy
    have e2 := hy vs h'.sq
    rw [hx] at e2
    cases e2
    exact ⟨Later.refl _ _ _, rh, Rp.later l rp⟩
  · exact ⟨vs, (h.later l).sq, by rw [r.length]; simpa using e⟩
theorem yields_scr {Z : Addr → Prop} {μ : List Addr} {S : Hs} {H : Hp} {a : Addr} {ns : List Int} (h : FxL H (Lv Z μ S) a (ns.map V.int) ∨ KL K a (ns.map V.int)) (hz : ns.length ≤ sizeLine) : Yields K Z (Itl K a) (ns.map dI) μ S H := by
  have sq : ∀ {μ' S' H'}, Later μ S H μ' S' H' → SqL K H' a (ns.map V.int) := fun l => h.elim (fun h => (h.later l).sq) .inr
  refine ⟨by simpa using hz, fun i d μ' S' H' e l rh => ?_, fun i μ' S' H' e l rh => ?_⟩
  · rw [List.getElem?_map] at e
    obtain ⟨p, e1, rfl⟩ := Option.map_eq_some_iff.mp e
    have hx : (ns.map V.int)[i]? = some (V.int p) := by rw [List.getElem?_map, e1]; rfl
    refine ⟨⟨ns.map V.int, _, sq l, hx⟩, fun y H'' hy => ?_⟩
    obtain ⟨rfl, hy⟩ := hy
    have e2 := hy _ (sq l)
    rw [hx] at e2
    cases e2
    exact ⟨Later.refl _ _ _, rh, Rp.int _⟩
  · exact ⟨ns.map V.int, sq l, by simpa using e⟩
theorem yields_tup {Z : Addr → Prop} {μ : List Addr} {S : Hs} {H : Hp} {a : Addr} {vs : List V} {ps : List PyData} (h : FxT K H (Lv Z μ S) a vs) (r : RpAll K H (Lv Z μ S) vs ps) (hz : ps.length ≤ sizeLine) : Yields K Z (Itt K a) (ps.map .dat) μ S H := by
  refine ⟨by simpa using hz, fun i d μ' S' H' e l rh => ?_, fun i μ' S' H' e l rh => ?_⟩
  · rw [List.getElem?_map] at e
    obtain ⟨p, e1, rfl⟩ := Option.map_eq_some_iff.mp e
    obtain ⟨x, hx, rp⟩ := r.get e1
    have h' := h.later l
    refine ⟨⟨vs, x, h'.sq, hx⟩, fun y H'' hy => ?_⟩
    obtain ⟨rfl, hy⟩ := hy
    have e2 := hy vs h'.sq
    rw [hx] at e2
    cases e2
    exact ⟨Later.refl _ _ _, rh, Rp.later l rp⟩
  · exact ⟨vs, (h.later l).sq, by rw [r.length]; simpa using e⟩
theorem rng_get {lo hi : Int} {i : Nat} {d : D} (e : (rngL lo hi)[i]? = some d) : i < (hi - lo).toNat ∧ d = dI (lo + (i : Int)) := by
  unfold rngL at e
  rw [List.getElem?_map] at e
  obtain ⟨k, e1, rfl⟩ := Option.map_eq_some_iff.mp e
  obtain ⟨h1, h2⟩ := List.getElem?_eq_some_iff.mp e1
  simp at h1 h2
  subst h2
  exact ⟨by omega, rfl⟩
theorem yields_rng {Z : Addr → Prop} {μ : List Addr} {S : Hs} {H : Hp} {lo hi : Int} (h1 : rngOk lo = true) (h2 : rngOk hi = true) : Yields K Z (Itr lo (hi - lo).toNat) (rngL lo hi) μ S H := by
  have hl : (rngL lo hi).length = (hi - lo).toNat := by simp [rngL]
  unfold rngOk at h1 h2
  simp only [Bool.and_eq_true, decide_eq_true_eq] at h1 h2
  refine ⟨?_, fun i d μ' S' H' e l rh => ?_, fun i μ' S' H' e l rh => ?_⟩
  · rw [hl, sizeLine_eq]; omega
  · obtain ⟨hi', rfl⟩ := rng_get e
    refine ⟨hi', fun y H'' hy => ?_⟩
    obtain ⟨rfl, rfl⟩ := hy
    exact ⟨Later.refl _ _ _, rh, Rp.int _⟩
  · show (hi - lo).toNat ≤ i
    omega
theorem two_len : 2 ≤ sizeLine := by decide
theorem yields_enum {Z : Addr → Prop} {μ : List Addr} {S : Hs} {H : Hp} {a : Addr} {vs : List V} {ps : List PyData} (h : FxL H (Lv Z μ S) a vs) (r : RpAll K H (Lv Z μ S) vs ps) (hz : ps.length ≤ sizeLine) : Yields K Z (Ite K a) (ps.mapIdx fun i p => dT [.int i, p]) μ S H := by
  refine ⟨by simpa using hz, fun i d μ' S' H' e l rh => ?_, fun i μ' S' H' e l rh => ?_⟩
  · rw [List.getElem?_mapIdx] at e
    obtain ⟨p, e1, rfl⟩ := Option.map_eq_some_iff.mp e
    obtain ⟨x, hx, rp⟩ := r.get e1
    have h' := h.later l
    refine ⟨⟨vs, x, h'.sq, hx⟩, fun y H'' hy => ?_⟩
    obtain ⟨T, x', rfl, hT, rfl, hy⟩ := hy
    have e2 := hy vs h'.sq
    rw [hx] at e2
    cases e2
    exact ⟨later_fresh hT _, rh.fresh hT _, rp_tup rh hT (.cons (.int _) (.cons (Rp.later l rp) .nil)) two_len⟩
  · exact ⟨vs, (h.later l).sq, by rw [r.length]; simpa using e⟩
theorem yields_enumT {Z : Addr → Prop} {μ : List Addr} {S : Hs} {H : Hp} {a : Addr} {vs : List V} {ps : List PyData} (h : FxT K H (Lv Z μ S) a vs) (r : RpAll K H (Lv Z μ S) vs ps) (hz : ps.length ≤ sizeLine) : Yields K Z (IteT K a) (ps.mapIdx fun i p => dT [.int i, p]) μ S H := by
  refine ⟨by simpa using hz, fun i d μ' S' H' e l rh => ?_, fun i μ' S' H' e l rh => ?_⟩
  · rw [List.getElem?_mapIdx] at e
    obtain ⟨p, e1, rfl⟩ := Option.map_eq_some_iff.mp e
    obtain ⟨x, hx, rp⟩ := r.get e1
    have h' := h.later l
    refine ⟨⟨vs, x, h'.sq, hx⟩, fun y H'' hy => ?_⟩
    obtain ⟨T, x', rfl, hT, rfl, hy⟩ := hy
    have e2 := hy vs h'.sq
    rw [hx] at e2
    cases e2
    exact ⟨later_fresh hT _, rh.fresh hT _, rp_tup rh hT (.cons (.int _) (.cons (Rp.later l rp) .nil)) two_len⟩
  · exact ⟨vs, (h.later l).sq, by rw [r.length]; simpa using e⟩
theorem zip_get {ps qs : List PyData} {i : Nat} {d : D} (e : ((ps.zip qs).map fun r => dT [r.1, r.2])[i]? = some d) : ∃ p q, ps[i]? = some p ∧ qs[i]? = some q ∧ d = dT [p, q] := by
  rw [List.getElem?_map] at e
  obtain ⟨⟨p, q⟩, e1, rfl⟩ := Option.map_eq_some_iff.mp e
  rw [List.getElem?_zip_eq_some] at e1
  exact ⟨p, q, e1.1, e1.2, rfl⟩
theorem yields_zipL {Z : Addr → Prop} {μ : List Addr} {S : Hs} {H : Hp} {a b : Addr} {vs ws : List V} {ps qs : List PyData} (h : FxL H (Lv Z μ S) a vs) (r : RpAll K H (Lv Z μ S) vs ps) (h2 : FxL H (Lv Z μ S) b ws) (r2 : RpAll K H (Lv Z μ S) ws qs) (hz : ps.length ≤ sizeLine) :
    Yields K Z (Itz K a b) ((ps.zip qs).map fun r => dT [r.1, r.2]) μ S H := by
  refine ⟨by rw [List.length_map, List.length_zip]; omega, fun i d μ' S' H' e l rh => ?_, fun i μ' S' H' e l rh => ?_⟩
  · obtain ⟨p, q, e1, e2, rfl⟩ := zip_get e
    obtain ⟨x, hx, rp⟩ := r.get e1
    obtain ⟨y, hy, rq⟩ := r2.get e2
    have h' := h.later l
    have h2' := h2.later l
    refine ⟨⟨vs, ws, x, y, h'.sq, h2'.sq, hx, hy⟩, fun y' H'' hh => ?_⟩
    obtain ⟨T, x', y', rfl, hT, rfl, f1, f2⟩ := hh
    have e3 := f1 vs h'.sq
    rw [hx] at e3
    cases e3
    have e4 := f2 ws h2'.sq
    rw [hy] at e4
    cases e4
    exact ⟨later_fresh hT _, rh.fresh hT _, rp_tup rh hT (.cons (Rp.later l rp) (.cons (Rp.later l rq) .nil)) two_len⟩
  · refine ⟨vs, ws, (h.later l).sq, (h2.later l).sq, ?_⟩
    rw [r.length, r2.length]
    rw [List.length_map, List.length_zip] at e
    omega
theorem yields_zipT {Z : Addr → Prop} {μ : List Addr} {S : Hs} {H : Hp} {a b : Addr} {vs ws : List V} {ps qs : List PyData} (h : FxT K H (Lv Z μ S) a vs) (r : RpAll K H (Lv Z μ S) vs ps) (h2 : FxT K H (Lv Z μ S) b ws) (r2 : RpAll K H (Lv Z μ S) ws qs) (hz : ps.length ≤ sizeLine) :
    Yields K Z (RZ.ItzT K a b) ((ps.zip qs).map fun r => dT [r.1, r.2]) μ S H := by
  refine ⟨by rw [List.length_map, List.length_zip]; omega, fun i d μ' S' H' e l rh => ?_, fun i μ' S' H' e l rh => ?_⟩
  · obtain ⟨p, q, e1, e2, rfl⟩ := zip_get e
    obtain ⟨x, hx, rp⟩ := r.get e1
    obtain ⟨y, hy, rq⟩ := r2.get e2
    have h' := h.later l
    have h2' := h2.later l
    refine ⟨⟨vs, ws, x, y, h'.sq, h2'.sq, hx, hy⟩, fun y' H'' hh => ?_⟩
    obtain ⟨T, x', y', rfl, hT, rfl, f1, f2⟩ := hh
    have e3 := f1 vs h'.sq
    rw [hx] at e3
    cases e3
    have e4 := f2 ws h2'.sq
    rw [hy] at e4
    cases e4
    exact ⟨later_fresh hT _, rh.fresh hT _, rp_tup rh hT (.cons (Rp.later l rp) (.cons (Rp.later l rq) .nil)) two_len⟩
  · refine ⟨vs, ws, (h.later l).sq, (h2.later l).sq, ?_⟩
    rw [r.length, r2.length]
    rw [List.length_map, List.length_zip] at e
    omega
end
/-- the keys of the dict at d, whose very object is o -/
def ItkR (d : Addr) (o : Obj) (ks : List Addr) : It :=
  ⟨fun i H => H d = some (.ext fun h => h.get? d = some o) ∧ i < ks.length, fun i H x H' => H' = H ∧ ∃ b, ks[i]? = some b ∧ x = .ref b, fun i H => H d = some (.ext fun h => h.get? d = some o) ∧ ks.length ≤ i⟩
theorem turn_keysR {P : Program} {w : World} {K : PySem.W.Frag} {tg : Expr} {d : Addr} {o : Obj} {es : Array DictEntry} {ep : Nat} {ks : List Addr} (it : Addr) (hod : o.data = .dict es ep) (hk : es.toList.map (·.key) = ks.map Value.ref) : Turn P w K tg (ItkR d o ks) [it] it (fun i h => h.IsKeyIter it d i ks.length ep) where
  mem := by simp
  obj := fun i h st b hb => by
    have e : b = it := by simpa using hb
    subst e
    obtain ⟨oi, e, c, dd⟩ := st
    exact ⟨oi, e, fun v z => by rw [dd] at z; cases z⟩
  keep := fun i h h' st k => st.at fun oi e => k it (by simp) oi e
  item := by
    intro X hP hw hK hc i pins s σ H E I hf st hg
    subst hP hw hK
    obtain ⟨hd, hi⟩ := hg
    obtain ⟨f0, f1, f2, f3, f4, f5⟩ := hf it (by simp)
    have hgd : s.heap.get? d = some o := (I.hok d _ hd).1
    have hsz : es.size = ks.length := by
      have := congrArg List.length hk
      simpa using this
    have hen : es[i]? = some es[i] := Array.getElem?_eq_getElem (by omega)
    have hkey : (es[i]'(by omega)).key = .ref ks[i] := by
      have := congrArg (fun l => l[i]?) hk
      simp only [List.getElem?_map, Array.getElem?_toList, hen, Option.map_some, List.getElem?_eq_getElem hi, Option.some.injEq] at this
      exact this
    refine next_key_item st hgd hod hsz hen fun h' st' sb => ?_
    have I1 : Inv X pins σ H { s with heap := h' } := I.turned (t' := s.toks) (fun b ob hb e => (sb.2 b hb).trans e) f0 f1 f3 f4 f5
    obtain ⟨oi, e, c, dd⟩ := id st'
    exact ⟨_, rfl, go_of (s := { s with heap := h' }) e c dd (by decide) ⟨.ref ks[i], H, I1, hkey, ⟨rfl, ks[i], List.getElem?_eq_getElem hi, rfl⟩, st', fun b hb => (hf b hb).1⟩⟩
  done := by
    intro X hP hw hK hc i pins s σ H E I hf st hg
    subst hP hw hK
    obtain ⟨hd, hi⟩ := hg
    obtain ⟨f0, f1, f2, f3, f4, f5⟩ := hf it (by simp)
    have hgd : s.heap.get? d = some o := (I.hok d _ hd).1
    have hsz : es.size = ks.length := by
      have := congrArg List.length hk
      simpa using this
    exact next_key_end (I.ok.hd hc) st hgd hod hsz hi fun h' eb => ⟨rfl, I.turned (t' := s.toks) (fun b ob hb e => eb b ob hb e) f0 f1 f3 f4 f5⟩
  self := fun A i s Q E st h => by
    refine wpAny_pyIter_slot st.typeIs F.slot_dict_keyiterator_iter (wpAny_call_entry F.slot_dict_keyiterator_iter st.typeIs F.entry_dict_keyiterator_iter ?_ (F.args_dict_keyiterator_iter_1 _))
    show wpAny _ _ (ret (.ref it)) _ _ s
    exact wpAny_pure ⟨_, rfl, "dict_keyiterator", _, st.typeIs, F.slot_dict_keyiterator_next.lookup, h⟩
/-- a dict's very object, its keys -/
def DkR (H : Hp) (d : Addr) (o : Obj) (ks : List Addr) : Prop := (d == sysModules) = false ∧ H d = some (.ext fun h => h.get? d = some o) ∧ o.ExactDict ∧ ∃ (es : Array DictEntry) (ep : Nat), o.data = .dict es ep ∧ es.toList.map (·.key) = ks.map Value.ref
theorem ent_keys {δ : Type} {K : Kw} {H : Hp} {L : Addr → Prop} {Vr : δ → V → Prop} : ∀ {kvs : List (PyData × δ)} {xs : List (NestedKey × Addr × Value)}, Paired (EntR K H L Vr) kvs xs → RpAll K.fr H L ((xs.map fun x => x.2.1).map V.ref) (kvs.map (·.1))
  | _, _, .nil => .nil
  | _, _, .cons a b => .cons a.2.2.1 (ent_keys b)
theorem TabAt.keys {δ : Type} {K : Kw} {H : Hp} {L : Addr → Prop} {Vr : δ → V → Prop} {kvs : List (PyData × δ)} {a : Addr} (h : TabAt K H L Vr kvs a) : ∃ o ks, DkR H a o ks ∧ RpAll K.fr H L (ks.map V.ref) (kvs.map (·.1)) ∧ kvs.length ≤ sizeLine := by
  obtain ⟨z, m, o, es, ep, xs, h1, h2, h3, h4, h5, h6⟩ := h
  refine ⟨o, xs.map fun x => x.2.1, ⟨m, h1, h2, es, ep, h3, ?_⟩, ent_keys h6, z⟩
  rw [h4]; simp
theorem yields_keys {K : Kw} {Z : Addr → Prop} {μ : List Addr} {S : Hs} {H : Hp} {a : Addr} {o : Obj} {ks : List Addr} {ps : List PyData} (h : DkR H a o ks) (n : ¬ Lv Z μ S a) (r : RpAll K H (Lv Z μ S) (ks.map V.ref) ps) (hz : ps.length ≤ sizeLine) : Yields K Z (ItkR a o ks) (ps.map .dat) μ S H := by
  have hl := r.length
  simp only [List.length_map] at hl
  have kp : ∀ {μ' S' H'}, Later μ S H μ' S' H' → H' a = some (.ext fun h => h.get? a = some o) := fun l => (l.keep a _ h.2.1 trivial fun y => n (.inl y)).1
  refine ⟨by simpa using hz, fun i d μ' S' H' e l rh => ?_, fun i μ' S' H' e l rh => ?_⟩
  · rw [List.getElem?_map] at e
    obtain ⟨p, e1, rfl⟩ := Option.map_eq_some_iff.mp e
    obtain ⟨x, hx, rp⟩ := r.get e1
    have hi : i < ks.length := by rw [hl]; exact (List.getElem?_eq_some_iff.mp e1).1
    refine ⟨⟨kp l, hi⟩, fun y H'' hy => ?_⟩
    obtain ⟨rfl, b, hb, rfl⟩ := hy
    rw [List.getElem?_map, hb] at hx
    cases hx
    exact ⟨Later.refl _ _ _, rh, Rp.later l rp⟩
  · exact ⟨kp l, by rw [hl]; simpa using e⟩
section
variable {X : Cx} {C : Calls} {tg : Expr}
/-- a list or a tuple -/
theorem pi_seq {l : Expr} {tl : TE} (hl : PE X l tl) : PI X tg l (fun σ H Rr => tl σ H fun x H1 => ∃ a, x = .ref a ∧ (((∃ xs, SqL X.K H1 a xs) ∧ Rr (Itl X.kw a) H1) ∨ ((∃ xs, SqT X.K H1 a xs) ∧ Rr (Itt X.kw a) H1) ∨ ∃ o ks, DkR H1 a o ks ∧ Rr (ItkR a o ks) H1)) := by
  refine ⟨fun pins s σ H Rr I h => ?_⟩
  refine thn (hl.run pins s σ H _ I h) fun v s1 ⟨x, H1, I1, r1, q1⟩ => ?_
  obtain ⟨a, e, q1⟩ := q1
  subst e
  cases r1
  have fp : ∀ b ∈ [s1.heap.objs.size], FpOk X pins H1 b := fun b hb => by
    have e : b = s1.heap.objs.size := by simpa using hb
    subst e
    exact I1.fpOk (Nat.le_refl _) (I1.hok.fresh (Nat.le_refl _))
  rcases q1 with ⟨⟨xs, hq⟩, q⟩ | ⟨⟨xs, hq⟩, q⟩ | ⟨o, ks, ⟨hs, hd, hx, es, ep, hdt, hk⟩, q⟩
  · obtain ⟨its, rv, p, hz⟩ := I1.list hq
    refine wpAny_pyIter_list p.isList ?_
    exact ⟨s1.heap.objs.size, [s1.heap.objs.size], _, _, H1, rfl, I1.kept (t' := s1.toks) fun b o e => Heap.get?_push_of_some _ e, turn_list a _, ⟨_, Heap.get?_push_size _ rfl, rfl, rfl⟩, fp, q⟩
  · obtain ⟨its, rv, p, hz⟩ := I1.tuple hq
    refine wpAny_pyIter_tuple (show s1.heap.IsTuple a its.toArray from p) ?_
    exact ⟨s1.heap.objs.size, [s1.heap.objs.size], _, _, H1, rfl, I1.kept (t' := s1.toks) fun b o e => Heap.get?_push_of_some _ e, turn_tuple a _, ⟨_, Heap.get?_push_size _ rfl, rfl, rfl⟩, fp, q⟩
  · have hgd : s1.heap.get? a = some o := (I1.hok a _ hd).1
    have hsz : es.size = ks.length := by
      have := congrArg List.length hk
      simpa using this
    refine iter_keys hs hgd hx hdt (pi_one (tk := s1.toks) I1 _ (turn_keysR _ hdt hk) ⟨_, Heap.get?_push_size _ rfl, rfl, ?_⟩ q)
    rw [hsz] <;> rfl
theorem tI_bind {K : Kx} {Z : Addr → Prop} {μ : List Addr} {S : Hs} {H : Hp} {r : R D} {f : D → Hs → R (List D)} {Rr : It → Hp → Prop} {Q' : VK}
    (h : match r.bind f with
      | .ok ds S1 => ∀ J μ1 H1, Later μ S H μ1 S1 H1 → RelH K Z μ1 S1 H1 → (∀ Z' μ' S' H', Later μ1 S1 H1 μ' S' H' → RelH K Z' μ' S' H' → (∀ a, Z a → Z' a) → (∀ a, Z' a → ¬ Z a → H1 a = none) → Yields K Z' J ds μ' S' H') → Rr J H1
      | .ex x S1 => ∀ cls d μ' H', Later μ S H μ' S1 H' → RelH K Z μ' S1 H' → RelX K (Lv Z μ' S1) H' x cls d → K.xk cls d H'
      | .no => False)
    (k : ∀ d S1 v μ1 H1, Later μ S H μ1 S1 H1 → RelH K Z μ1 S1 H1 → RelD K Z μ1 S1 H1 d v →
      (match f d S1 with
      | .ok ds S2 => ∀ J μ2 H2, Later μ1 S1 H1 μ2 S2 H2 → RelH K Z μ2 S2 H2 → (∀ Z' μ' S' H', Later μ2 S2 H2 μ' S' H' → RelH K Z' μ' S' H' → (∀ a, Z a → Z' a) → (∀ a, Z' a → ¬ Z a → H2 a = none) → Yields K Z' J ds μ' S' H') → Rr J H2
      | .ex x S2 => ∀ cls d μ' H', Later μ1 S1 H1 μ' S2 H' → RelH K Z μ' S2 H' → RelX K (Lv Z μ' S2) H' x cls d → K.xk cls d H'
      | .no => False) → Q' v H1) : Out K Z (RelD K Z) μ S H r Q' := by
  cases r with
  | no => exact h
  | ex x h' => exact h
  | ok d S1 =>
    intro v μ1 H1 l rh rv
    refine k d S1 v μ1 H1 l rh rv ?_
    simp only [R.bind_ok] at h
    cases e : f d S1 with
    | no => rw [e] at h; exact h
    | ex x h' => rw [e] at h; exact fun cls d μ' H' l' => h cls d μ' H' (l.trans l')
    | ok ds S2 =>
      rw [e] at h
      intro J μ2 H2 l2 rh2 y
      exact h J μ2 H2 (l.trans l2) rh2 y
theorem sI_seq {e : Expr} {c : CE} (h : PE X e (tE X.kw (evE C c))) : PI X tg e (tI X.kw (evI C (.seq c))) := by
  refine PI_wk (pi_seq h) fun σ H Rr ⟨Z, μ, ρ, S, rh, re, o⟩ => ?_
  simp only [evI] at o
  refine ⟨Z, μ, ρ, S, rh, re, tI_bind o fun d S1 v μ1 H1 l1 rh1 r1 o1 => ?_⟩
  cases d with
  | ref n => exact o1.elim
  | exv x => exact o1.elim
  | dct kvs =>
    obtain ⟨a, rfl, z1, tb⟩ := r1
    obtain ⟨o, ks, dk, rk, hz0⟩ := tb.keys
    refine ⟨_, rfl, .inr (.inr ⟨o, ks, dk, o1 _ μ1 H1 (Later.refl _ _ _) rh1 fun Z' μ' S' H' l' rh' hz hz' => ?_⟩)⟩
    have kp := l'.keep a _ dk.2.1 trivial fun y => z1 (.inl y)
    have nl : ¬ Lv Z' μ' S' a := fun y => y.elim kp.2 fun zz => by
      by_cases hza : Z a
      · exact z1 (.inr hza)
      · have := hz' a zz hza
        rw [dk.2.1] at this
        cases this
    have := yields_keys (K := X.kw) (Z := Z') (ps := kvs.map (·.1)) ⟨dk.1, kp.1, dk.2.2⟩ nl (RpAll.hide l' hz' rk) (by simpa using hz0)
    rw [List.map_map] at this
    exact this
  | scr ns =>
    obtain ⟨a, rfl, z1, h1⟩ := r1
    refine ⟨_, rfl, .inl ⟨⟨_, h1.elim (fun h => h.sq) .inr⟩, o1 _ μ1 H1 (Later.refl _ _ _) rh1 fun Z' μ' S' H' l' rh' hz hz' => ?_⟩⟩
    exact yields_scr (h1.elim (fun h => .inl (fx_hide l' h.1 trivial h.2 hz')) .inr) z1
  | dat p =>
    cases p with
    | list ps =>
      cases r1 with
      | lst h1 z1 q1 =>
        refine ⟨_, rfl, .inl ⟨⟨_, h1.sq⟩, o1 _ μ1 H1 (Later.refl _ _ _) rh1 fun Z' μ' S' H' l' rh' hz hz' => ?_⟩⟩
        exact yields_list (fx_hide l' h1.1 trivial h1.2 hz') (RpAll.hide l' hz' q1) z1
    | tuple ps =>
      cases r1 with
      | tup h1 z1 q1 =>
        refine ⟨_, rfl, .inr (.inl ⟨⟨_, h1.sq⟩, o1 _ μ1 H1 (Later.refl _ _ _) rh1 fun Z' μ' S' H' l' rh' hz hz' => ?_⟩)⟩
        exact yields_tup (h1.elim (fun h => .inl (fx_hide l' h.1 trivial h.2 hz')) .inr) (RpAll.hide l' hz' q1) z1
    | _ => exact o1.elim

theorem PA1 {e : Expr} {t : TE} (h : PE X e t) (hs : notStar e = true) : PA X [e] (tCons t tNil) := pa_cons h pa_nil (star_cons hs)
theorem PA2 {e e2 : Expr} {t t2 : TE} (h : PE X e t) (h2 : PE X e2 t2) (hs : notStar e = true) (hs2 : notStar e2 = true) : PA X [e, e2] (tCons t (tCons t2 tNil)) := pa_cons h (pa_cons h2 pa_nil (star_cons hs2)) (star_cons hs)
theorem star_nil {env : Env} : starEach [] env = [] := rfl
theorem sI_rng1 {e : Expr} {c : CE} {p pos : Pos} (hg : Gl X "range") (hm : X.mg "range" = none) (h : PE X e (tE X.kw (evE C c))) (hs : notStar e = true) : PI X tg (.Call (.Name "range" p) [e] [] pos) (tI X.kw (evI C (.rng1 c))) := by
  refine PI_wk (pi_range1 hg hm (PA1 h hs) (by rw [star_cons hs, star_nil])) fun σ H Rr ⟨Z, μ, ρ, S, rh, re, o⟩ => ?_
  simp only [evI] at o
  refine ⟨Z, μ, ρ, S, rh, re, tI_bind o fun d S1 v μ1 H1 l1 rh1 r1 o1 => ?_⟩
  cases d with
  | ref n => exact o1.elim
  | scr ns => exact o1.elim
  | dct kvs => exact o1.elim
  | exv x => exact o1.elim
  | dat p =>
    cases p with
    | int j =>
      cases r1
      by_cases hj : rngOk j = true
      · simp only [hj, if_true] at o1
        have hb := hj
        unfold rngOk at hb
        simp only [Bool.and_eq_true, decide_eq_true_eq] at hb
        refine ⟨j, rfl, by omega, by omega, o1 _ μ1 H1 (Later.refl _ _ _) rh1 fun Z' μ' S' H' l' rh' hz hz' => ?_⟩
        have y := yields_rng (K := X.kw) (Z := Z') (μ := μ') (S := S') (H := H') (lo := 0) (hi := j) (by decide) hj
        simpa using y
      · simp only [hj] at o1; exact o1.elim
    | _ => exact o1.elim
theorem sI_rng2 {e e2 : Expr} {c c2 : CE} {p pos : Pos} (hg : Gl X "range") (hm : X.mg "range" = none) (h : PE X e (tE X.kw (evE C c))) (h2 : PE X e2 (tE X.kw (evE C c2))) (hs : notStar e = true) (hs2 : notStar e2 = true) : PI X tg (.Call (.Name "range" p) [e, e2] [] pos) (tI X.kw (evI C (.rng2 c c2))) := by
  refine PI_wk (pi_range2 hg hm (PA2 h h2 hs hs2) (by rw [star_cons hs, star_cons hs2, star_nil]) (by rw [star_cons hs2, star_nil])) fun σ H Rr ⟨Z, μ, ρ, S, rh, re, o⟩ => ?_
  simp only [evI] at o
  refine ⟨Z, μ, ρ, S, rh, re, tI_bind o fun d S1 v μ1 H1 l1 rh1 r1 o1 => ?_⟩
  refine ⟨Z, μ1, ρ, S1, rh1, re.later l1, tI_bind o1 fun d2 S2 v2 μ2 H2 l2 rh2 r2 o2 => ?_⟩
  have r1' := r1.later l2
  cases d with
  | ref n => exact o2.elim
  | scr ns => exact o2.elim
  | dct kvs => exact o2.elim
  | exv x => exact o2.elim
  | dat p =>
    cases p with
    | int i =>
      cases d2 with
      | ref n => exact o2.elim
      | scr ns => exact o2.elim
      | dct kvs => exact o2.elim
      | exv x => exact o2.elim
      | dat q =>
        cases q with
        | int j =>
          cases r1'
          cases r2
          by_cases hj : (rngOk i && rngOk j) = true
          · simp only [hj, if_true] at o2
            rw [Bool.and_eq_true] at hj
            have h3 := hj.1
            have h4 := hj.2
            unfold rngOk at h3 h4
            simp only [Bool.and_eq_true, decide_eq_true_eq] at h3 h4
            exact ⟨i, j, rfl, ⟨by omega, by omega, by omega, by omega⟩, o2 _ μ2 H2 (Later.refl _ _ _) rh2 fun Z' μ' S' H' l' rh' hz hz' => yields_rng hj.1 hj.2⟩
          · simp only [hj] at o2; exact o2.elim
        | _ => exact o2.elim
    | _ => exact o2.elim
theorem sI_enum {e : Expr} {c : CE} {p pos tpos : Pos} {elts : List Expr} {kk : Nat} (hg : Gl X "enumerate") (hm : X.mg "enumerate" = none) (h : PE X e (tE X.kw (evE C c))) (hs : notStar e = true) : PI X (.Tuple elts kk tpos) (.Call (.Name "enumerate" p) [e] [] pos) (tI X.kw (evI C (.enum c))) := by
  refine PI_wk (pi_enumA hg hm (PA1 h hs) (by rw [star_cons hs, star_nil])) fun σ H Rr ⟨Z, μ, ρ, S, rh, re, o⟩ => ?_
  simp only [evI] at o
  refine ⟨Z, μ, ρ, S, rh, re, tI_bind o fun d S1 v μ1 H1 l1 rh1 r1 o1 => ?_⟩
  cases d with
  | ref n => exact o1.elim
  | scr ns => exact o1.elim
  | dct kvs => exact o1.elim
  | exv x => exact o1.elim
  | dat p =>
    cases p with
    | list ps =>
      cases r1 with
      | lst h1 z1 q1 =>
        exact ⟨_, _, rfl, .inl ⟨h1.sq, o1 _ μ1 H1 (Later.refl _ _ _) rh1 fun Z' μ' S' H' l' rh' hz hz' => yields_enum (fx_hide l' h1.1 trivial h1.2 hz') (RpAll.hide l' hz' q1) z1⟩⟩
    | tuple ps =>
      cases r1 with
      | tup h1 z1 q1 =>
        exact ⟨_, _, rfl, .inr ⟨h1.sq, o1 _ μ1 H1 (Later.refl _ _ _) rh1 fun Z' μ' S' H' l' rh' hz hz' => yields_enumT (h1.elim (fun h => .inl (fx_hide l' h.1 trivial h.2 hz')) .inr) (RpAll.hide l' hz' q1) z1⟩⟩
    | _ => exact o1.elim
theorem sI_zip {e e2 : Expr} {c c2 : CE} {p pos tpos : Pos} {elts : List Expr} {kk : Nat} (hg : Gl X "zip") (hm : X.mg "zip" = none) (h : PE X e (tE X.kw (evE C c))) (h2 : PE X e2 (tE X.kw (evE C c2))) (hs : notStar e = true) (hs2 : notStar e2 = true) :
    PI X (.Tuple elts kk tpos) (.Call (.Name "zip" p) [e, e2] [] pos) (tI X.kw (evI C (.zip c c2))) := by
  refine PI_wk (RZ.pi_zipA hg hm (PA2 h h2 hs hs2) (star_cons hs) (back_any (by simp [hs2]))) fun σ H Rr ⟨Z, μ, ρ, S, rh, re, o⟩ => ?_
  simp only [evI] at o
  refine ⟨Z, μ, ρ, S, rh, re, tI_bind o fun d S1 v μ1 H1 l1 rh1 r1 o1 => ?_⟩
  refine ⟨Z, μ1, ρ, S1, rh1, re.later l1, tI_bind o1 fun d2 S2 v2 μ2 H2 l2 rh2 r2 o2 => ?_⟩
  have r1' := r1.later l2
  cases d with
  | ref n => exact o2.elim
  | scr ns => exact o2.elim
  | dct kvs => exact o2.elim
  | exv x => exact o2.elim
  | dat p =>
    cases d2 with
    | ref n => cases p <;> exact o2.elim
    | scr ns => cases p <;> exact o2.elim
    | dct kvs => cases p <;> exact o2.elim
    | exv x => cases p <;> exact o2.elim
    | dat q =>
      cases p with
      | list ps =>
        cases q with
        | list qs =>
          cases r1' with
          | lst h1 z1 q1 =>
            cases r2 with
            | lst h2 z2 q2 =>
              exact ⟨_, _, _, _, rfl, .inl ⟨h1.sq, h2.sq, o2 _ μ2 H2 (Later.refl _ _ _) rh2 fun Z' μ' S' H' l' rh' hz hz' => yields_zipL (fx_hide l' h1.1 trivial h1.2 hz') (RpAll.hide l' hz' q1) (fx_hide l' h2.1 trivial h2.2 hz') (RpAll.hide l' hz' q2) z1⟩⟩
        | _ => exact o2.elim
      | tuple ps =>
        cases q with
        | tuple qs =>
          cases r1' with
          | tup h1 z1 q1 =>
            cases r2 with
            | tup h2 z2 q2 =>
              exact ⟨_, _, _, _, rfl, .inr ⟨h1.sq, h2.sq, o2 _ μ2 H2 (Later.refl _ _ _) rh2 fun Z' μ' S' H' l' rh' hz hz' => yields_zipT (h1.elim (fun h => .inl (fx_hide l' h.1 trivial h.2 hz')) .inr) (RpAll.hide l' hz' q1) (h2.elim (fun h => .inl (fx_hide l' h.1 trivial h.2 hz')) .inr) (RpAll.hide l' hz' q2) z1⟩⟩
        | _ => exact o2.elim
      | _ => cases q <;> exact o2.elim
/-! ### targets -/
theorem wipe_set (x : Option V) : ∀ (vs : List Nat) (σ : St) (i : Nat), i ∈ vs → L2.wipe (σ.set i x) vs = L2.wipe σ vs
  | [], _, _, h => by cases h
  | v :: vs, σ, i, h => by
    unfold L2.wipe
    by_cases hi : i ∈ vs
    · rw [wipe_set x vs σ i hi]
    · have e : i = v := by
        rcases List.mem_cons.mp h with e | e
        · exact e
        · exact absurd e hi
      subst e
      have : ∀ (ws : List Nat) (σ : St), i ∉ ws → L2.wipe (σ.set i x) ws = (L2.wipe σ ws).set i x := fun ws => by
        induction ws with
        | nil => intro σ _; rfl
        | cons w ws ih =>
          intro σ hw
          simp only [List.mem_cons, not_or] at hw
          unfold L2.wipe
          rw [ih σ hw.2, List.set_comm _ _ hw.1]
      rw [this vs σ hi, List.set_set]
mutual
def Tg.ix : Tg → List Nat
  | .name i => [i]
  | .tup ts => ts.ix
def Tgs.ix : Tgs → List Nat
  | .nil => []
  | .cons t ts => t.ix ++ ts.ix
end
/-- slots that a target stores: what is wiped stays -/
def Chg (is : List Nat) (σ σ' : St) : Prop := ∀ vs : List Nat, (∀ i ∈ is, i ∈ vs) → L2.wipe σ' vs = L2.wipe σ vs
def gT (K : Kw) (t : Tg) : TG := fun v σ H Q => ∃ Z μ ρ S d ρ', RelH K Z μ S H ∧ RelE K Z μ S H ρ σ ∧ RelD K Z μ S H d v ∧ bindT t d ρ = some ρ' ∧ ∀ σ', RelE K Z μ S H ρ' σ' → Chg t.ix σ σ' → Q σ' H
def gTs (K : Kw) (ts : Tgs) : TGs := fun vs σ H Q => ∃ Z μ ρ S ps ρ', RelH K Z μ S H ∧ RelE K Z μ S H ρ σ ∧ RpAll K H (Lv Z μ S) vs ps ∧ bindTs ts ps ρ = some ρ' ∧ ∀ σ', RelE K Z μ S H ρ' σ' → Chg ts.ix σ σ' → Q σ' H
theorem PG_wk {e : Expr} {t t' : TG} (h : PG X e t) (w : ∀ v σ H Q, t' v σ H Q → t v σ H Q) : PG X e t' := ⟨fun pins s σ H v u Q I r q => h.run pins s σ H v u Q I r (w v σ H Q q)⟩
theorem PGs_wk {e : List Expr} {t t' : TGs} (h : PGs X e t) (w : ∀ v σ H Q, t' v σ H Q → t v σ H Q) : PGs X e t' := ⟨fun pins s σ H v u Q I r q => h.run pins s σ H v u Q I r (w v σ H Q q)⟩
theorem sG_name {i : Nat} {x : Str} {pos : Pos} (hN : X.N.Nodup) (hi : X.N[i]? = some x) (hx : Loc X.env.scope x) (hf : X.fn x = true ∨ X.env.scope.names.lookup x = some .local) : PG X (.Name x pos) (gT X.kw (.name i)) := by
  refine PG_wk (pg_name hN hi hx hf) fun v σ H Q ⟨Z, μ, ρ, S, d, ρ', rh, re, rd, e, q⟩ => ?_
  simp only [bindT] at e
  cases e
  exact q _ (re.set i rd) fun vs h => wipe_set _ vs σ i (h i (by simp [Tg.ix]))
theorem sGs_nil : PGs X [] (gTs X.kw .nil) := PGs_wk pgs_nil fun vs σ H Q ⟨Z, μ, ρ, S, ps, ρ', rh, re, rp, e, q⟩ => by
  cases ps with
  | nil =>
    simp only [bindTs] at e
    cases e
    cases rp
    exact ⟨rfl, q σ re fun _ _ => rfl⟩
  | cons p ps => simp [bindTs] at e
theorem sGs_cons {e : Expr} {es : List Expr} {t : Tg} {ts : Tgs} (h : PG X e (gT X.kw t)) (hs : PGs X es (gTs X.kw ts)) (ha : (assignEach (e :: es) X.env).map (·.2) = assign e X.env :: (assignEach es X.env).map (·.2)) : PGs X (e :: es) (gTs X.kw (.cons t ts)) := by
  refine PGs_wk (pgs_cons h hs ha) fun vs σ H Q ⟨Z, μ, ρ, S, ps, ρ', rh, re, rp, e, q⟩ => ?_
  cases ps with
  | nil => simp [bindTs] at e
  | cons p ps =>
    cases rp with
    | cons r1 r2 =>
      simp only [bindTs] at e
      split at e
      · rename_i ρ1 e1
        refine ⟨_, _, rfl, Z, μ, ρ, S, .dat p, ρ1, rh, re, r1, e1, fun σ1 re1 c1 => ?_⟩
        refine ⟨Z, μ, ρ1, S, ps, ρ', rh, re1, r2, e, fun σ2 re2 c2 => q σ2 re2 fun vs h => ?_⟩
        rw [c2 vs fun i hi => h i (by simp [Tgs.ix, hi]), c1 vs fun i hi => h i (by simp [Tgs.ix, hi])]
      · cases e
theorem sG_tup {es : List Expr} {ts : Tgs} {k n : Nat} {pos : Pos} (hc : X.calm = true) (h : PGs X es (gTs X.kw ts)) (hn : (assignEach es X.env).length = n) (hst : (assignEach es X.env).findIdx? (·.1) = none) (hl : ∀ ps ρ ρ', bindTs ts ps ρ = some ρ' → ps.length = n) : PG X (.Tuple es k pos) (gT X.kw (.tup ts)) := by
  refine PG_wk (pg_tup (n := n) hc h hn hst) fun v σ H Q ⟨Z, μ, ρ, S, d, ρ', rh, re, rd, e, q⟩ => ?_
  cases d with
  | ref m => simp [bindT] at e
  | scr ns => simp [bindT] at e
  | dct kvs => simp [bindT] at e
  | exv x => simp [bindT] at e
  | dat p =>
    cases p with
    | tuple ps =>
      simp only [bindT] at e
      cases rd with
      | tup h1 z1 q1 =>
        refine ⟨_, _, rfl, h1.sq, by rw [q1.length]; exact hl _ _ _ e, Z, μ, ρ, S, ps, ρ', rh, re, q1, e, fun σ' re' c => q σ' re' fun vs hv => c vs hv⟩
    | _ => simp [bindT] at e
end
end L2.LC

/-! LC: comprehensions, loops, statements. -/
namespace L2.LC
open PySem PySem.Spec PyProof.Rows
section
variable {K : Kw}
mutual
theorem Rp.unhide {K : PySem.W.Frag} {H : Hp} {L L' : Addr → Prop} (h : ∀ a, L' a → L a) : ∀ {v : V} {p : PyData}, Rp K H L v p → Rp K H L' v p
  | _, _, .non => .non
  | _, _, .bl b => .bl b
  | _, _, .int i => .int i
  | _, _, .str x => .str x
  | _, _, .lst q z r => .lst ⟨q.1, fun y => q.2 (h _ y)⟩ z (RpAll.unhide h r)
  | _, _, .tup q z r => .tup (q.elim (fun q => .inl ⟨q.1, fun y => q.2 (h _ y)⟩) .inr) z (RpAll.unhide h r)
theorem RpAll.unhide {K : PySem.W.Frag} {H : Hp} {L L' : Addr → Prop} (h : ∀ a, L' a → L a) : ∀ {vs : List V} {ps : List PyData}, RpAll K H L vs ps → RpAll K H L' vs ps
  | _, _, .nil => .nil
  | _, _, .cons a b => .cons (Rp.unhide h a) (RpAll.unhide h b)
end
theorem RelD.unhide {Z Z' : Addr → Prop} {μ : List Addr} {S : Hs} {H : Hp} (h : ∀ a, Z' a → Z a) {d : D} {v : V} (r : RelD K Z μ S H d v) : RelD K Z' μ S H d v := by
  cases d with
  | dat p => exact Rp.unhide (fun a y => y.elim .inl fun z => .inr (h a z)) r
  | ref n => exact r
  | scr ns => obtain ⟨a, e, z, q⟩ := r; exact ⟨a, e, z, q.elim (fun q => .inl ⟨q.1, fun y => q.2 (y.elim .inl fun z => .inr (h a z))⟩) .inr⟩
  | dct kvs => exact RelD.dctMono r (fun v p y => Rp.unhide (fun a y => y.elim .inl fun z => .inr (h a z)) y) fun a u n e _ => ⟨e, fun y => n (y.elim .inl fun z => .inr (h a z))⟩
  | exv x => exact RelD.exvMono r (fun v p y => Rp.unhide (fun a y => y.elim .inl fun z => .inr (h a z)) y) fun a u n e _ => ⟨e, fun y => n (y.elim .inl fun z => .inr (h a z))⟩
theorem RelDs.unhide {Z Z' : Addr → Prop} {μ : List Addr} {S : Hs} {H : Hp} (h : ∀ a, Z' a → Z a) : ∀ {ds : List D} {vs : List V}, RelDs K Z μ S H ds vs → RelDs K Z' μ S H ds vs
  | _, _, .nil => .nil
  | _, _, .cons a b => .cons (RelD.unhide h a) (RelDs.unhide h b)
theorem RelH.unhide {Z Z' : Addr → Prop} {μ : List Addr} {S : Hs} {H : Hp} (h : ∀ a, Z' a → Z a) (r : RelH K Z μ S H) : RelH K Z' μ S H :=
  ⟨r.tb.mono fun a o e n => ⟨e, fun y => n (y.elim .inl fun z => .inr (h a z))⟩, fun a ha => r.zt a (h a ha), r.len, r.nd, r.tr, fun n o a h1 h2 => by
    have q := r.ob n o a h1 h2
    exact q.mono (fun u e => e) fun d v y => y.unhide h⟩
/-- the hidden list is written: nothing else sees it -/
theorem hid_rd {H : Hp} {L : Addr → Prop} {D a : Addr} {o : HO} {u : HO} (hD : L D) (h : Rd H a u) (n : ¬ L a) : Rd (upd H D o) a u := by
  have ne : a ≠ D := fun e => n (e ▸ hD)
  rcases h with h | ⟨ob, h⟩
  · exact .inl (by rw [upd_ne ne]; exact h)
  · exact .inr ⟨ob, by rw [upd_ne ne]; exact h⟩
mutual
theorem Rp.hidW {K : PySem.W.Frag} {H : Hp} {L : Addr → Prop} {D : Addr} {o : HO} (hD : L D) : ∀ {v : V} {p : PyData}, Rp K H L v p → Rp K (upd H D o) L v p
  | _, _, .non => .non
  | _, _, .bl b => .bl b
  | _, _, .int i => .int i
  | _, _, .str x => .str x
  | _, _, .lst q z r => .lst ⟨hid_rd hD q.1 q.2, q.2⟩ z (RpAll.hidW hD r)
  | _, _, .tup q z r => .tup (q.elim (fun q => .inl ⟨hid_rd hD q.1 q.2, q.2⟩) .inr) z (RpAll.hidW hD r)
theorem RpAll.hidW {K : PySem.W.Frag} {H : Hp} {L : Addr → Prop} {D : Addr} {o : HO} (hD : L D) : ∀ {vs : List V} {ps : List PyData}, RpAll K H L vs ps → RpAll K (upd H D o) L vs ps
  | _, _, .nil => .nil
  | _, _, .cons a b => .cons (Rp.hidW hD a) (RpAll.hidW hD b)
end
theorem RelD.hidW {Z : Addr → Prop} {μ : List Addr} {S : Hs} {H : Hp} {D : Addr} {o : HO} (hD : Z D) {d : LC.D} {v : V} (r : RelD K Z μ S H d v) : RelD K Z μ S (upd H D o) d v := by
  cases d with
  | dat p => exact Rp.hidW (.inr hD) r
  | ref n => exact r
  | scr ns => obtain ⟨a, e, z, q⟩ := r; exact ⟨a, e, z, q.elim (fun q => .inl ⟨hid_rd (.inr hD) q.1 q.2, q.2⟩) .inr⟩
  | dct kvs => exact RelD.dctMono r (fun v p y => Rp.hidW (.inr hD) y) fun a u n e _ => ⟨by rw [upd_ne (fun z => n (.inr (by rw [z]; exact hD)))]; exact e, n⟩
  | exv x => exact RelD.exvMono r (fun v p y => Rp.hidW (.inr hD) y) fun a u n e _ => ⟨by rw [upd_ne (fun z => n (.inr (by rw [z]; exact hD)))]; exact e, n⟩
theorem RelDs.hidW {Z : Addr → Prop} {μ : List Addr} {S : Hs} {H : Hp} {D : Addr} {o : HO} (hD : Z D) : ∀ {ds : List LC.D} {vs : List V}, RelDs K Z μ S H ds vs → RelDs K Z μ S (upd H D o) ds vs
  | _, _, .nil => .nil
  | _, _, .cons a b => .cons (RelD.hidW hD a) (RelDs.hidW hD b)
theorem RelH.hidW {Z : Addr → Prop} {μ : List Addr} {S : Hs} {H : Hp} {D : Addr} {o : HO} (hD : Z D) (r : RelH K Z μ S H) : RelH K Z μ S (upd H D o) := by
  have nD := (r.zt D hD).2
  refine ⟨r.tb.mono fun a u e n => ⟨by rw [upd_ne (fun z => n (.inr (by rw [z]; exact hD)))]; exact e, n⟩, fun a ha => ⟨?_, (r.zt a ha).2⟩, r.len, r.nd, fun a ha => ?_, fun n u a h1 h2 => ?_⟩
  · by_cases e : a = D
    · subst e; exact ⟨o, upd_same⟩
    · rw [upd_ne e]; exact (r.zt a ha).1
  · have e : a ≠ D := fun e => nD (e ▸ ha)
    rw [upd_ne e]; exact r.tr a ha
  · have e : a ≠ D := fun e => nD (e ▸ List.mem_of_getElem? h2)
    have q := r.ob n u a h1 h2
    exact q.mono (fun w h3 => by rw [upd_ne e]; exact h3) fun d v y => y.hidW hD
end
section
variable {X : Cx} {C : Calls}
theorem PTs_wk {es : List Expr} {t t' : TT} (h : PTs X es t) (w : ∀ σ H Q, t' σ H Q → t σ H Q) : PTs X es t' := ⟨fun pins s σ H Q I q => h.run pins s σ H Q I (w σ H Q q)⟩
theorem sTs_nil : PTs X [] (tTs X.kw (evT C .none)) := PTs_wk pts_nil fun σ H Q ⟨Z, μ, ρ, S, rh, re, o⟩ => Out.ok (Rl := RelB) o rh rfl
theorem sTs_one {c : Expr} {cc : CE} (h : PT X c (tTs X.kw (evB C cc))) : PTs X [c] (tTs X.kw (evT C (.some cc))) := PTs_wk (pts_one h) fun σ H Q h => h
theorem wipe_none : ∀ (ws : List Nat) (σ : St) (v : Nat), v ∈ ws → (L2.wipe σ ws).set v none = L2.wipe σ ws
  | [], _, _, h => by cases h
  | w :: ws, σ, v, h => by
    unfold L2.wipe
    by_cases e : v = w
    · subst e; rw [List.set_set]
    · have hv : v ∈ ws := by
        rcases List.mem_cons.mp h with z | z
        · exact absurd z e
        · exact z
      rw [List.set_comm _ _ (Ne.symm e), wipe_none ws σ v hv]
theorem wipe_idem (ws : List Nat) (σ : St) : ∀ vs : List Nat, (∀ i ∈ vs, i ∈ ws) → L2.wipe (L2.wipe σ ws) vs = L2.wipe σ ws
  | [], _ => rfl
  | v :: vs, h => by
    show (L2.wipe (L2.wipe σ ws) vs).set v none = L2.wipe σ ws
    rw [wipe_idem ws σ vs fun i hi => h i (List.mem_cons_of_mem _ hi), wipe_none ws σ v (h v (List.mem_cons_self ..))]
theorem compL_ex {bnd : D → Option En} {tst : En → Hs → R Bool} {elt : En → Hs → R D} {x : Xn} : ∀ {ds : List D} {h h' : Hs}, compL bnd tst elt ds h = .ex x h' → False
  | [], _, _, e => by cases e
  | d :: ds, h, h', e => by
    unfold compL at e
    split at e
    · cases e
    · split at e
      · split at e
        · cases q : compL bnd tst elt ds _ with
          | ok ps S => rw [q] at e; cases e
          | ex y S => exact compL_ex q
          | no => rw [q] at e; cases e
        · cases e
      · exact compL_ex e
      · cases e
/-- the reading of a comprehension -/
theorem comp_rd {t : Tg} {own : List (Str × Nat)} {it : IT} {c : CO} {e : CE} (hix : ∀ i ∈ t.ix, i ∈ own.map (·.2)) {σ : St} {H : Hp} {Q : VK} (h : tE X.kw (evE C (.comp e t (own.map (·.2)) it c)) σ H Q) :
    tLc (tI X.kw (evI C it)) (gT X.kw t) (tTs X.kw.no (evT C c)) (tE X.kw.no (evE C e)) (own.map (·.2)) σ H Q := by
  obtain ⟨Z, μ, ρ, S, rh, re, o⟩ := h
  simp only [evE] at o
  generalize own.map (·.2) = vs at o hix
  refine ⟨Z, μ, ρ, S, rh, re, ?_⟩
  cases ei : evI C it ρ S with
  | no => rw [ei] at o; exact o
  | ex x h' => rw [ei] at o; exact o
  | ok ds S1 =>
    rw [ei] at o
    simp only [R.bind_ok] at o
    intro J μ1 H1 l1 rh1 yy D hD
    have re1 := re.later l1
    -- D is hidden within
    have rhD : RelH X.kw (fun a => Z a ∨ a = D) μ1 S1 (upd H1 D (.lst [])) := by
      have r := rh1.fresh hD (.lst [])
      refine ⟨rh1.tb.mono fun a u e n => ⟨by rw [upd_ne (ne_of_none e hD)]; exact e, fun y => ?_⟩, fun a ha => ?_, r.len, r.nd, r.tr, fun n u a h1 h2 => ?_⟩
      · rcases y with y | y | rfl
        · exact n (.inl y)
        · exact n (.inr y)
        · rw [hD] at e; cases e
      · rcases ha with z | rfl
        · exact r.zt a z
        · exact ⟨⟨_, upd_same⟩, rh1.notin hD⟩
      · have q := rh1.ob n u a h1 h2
        exact q.mono (fun w h3 => by rw [upd_ne (ne_of_none h3 hD)]; exact h3) fun d v y => RelD.hide (later_fresh hD _) (fun a ha hn => by rcases ha with z | rfl; exact absurd z hn; exact hD) y
    have lD : Later μ1 S1 H1 μ1 S1 (upd H1 D (.lst [])) := later_fresh hD _
    have hzz : ∀ a, (Z a ∨ a = D) → ¬ Z a → H1 a = none := fun a ha hn => by
      rcases ha with z | rfl
      · exact absurd z hn
      · exact hD
    let bnd := fun d => bindT t d (wipeE ρ vs)
    let Inv0 : Nat → Hp → Prop := fun i H' => i ≤ ds.length ∧ ∃ μ' S' accV accP, Later μ1 S1 H1 μ' S' H' ∧ RelH X.kw (fun a => Z a ∨ a = D) μ' S' H' ∧ H' D = some (.lst accV) ∧ RpAll X.K H' (Lv (fun a => Z a ∨ a = D) μ' S') accV accP ∧ accP.length ≤ i ∧
      (match (compL bnd (fun ρ' h' => evT C c ρ' h') (fun ρ' h' => evE C e ρ' h') (ds.drop i) S') with
        | .ok ps S2 => Out X.kw Z (RelD X.kw Z) μ S H (.ok (dL (accP ++ ps)) S2) Q
        | _ => False)
    refine ⟨fun i m H' => m = ds.length - i ∧ Inv0 i H', ⟨ds.length, by simp, Nat.zero_le _, μ1, S1, [], [], ?_, rhD, upd_same, .nil, Nat.zero_le _, ?_⟩, ?_⟩
    · exact lD
    · cases ec : compL bnd (fun ρ' h' => evT C c ρ' h') (fun ρ' h' => evE C e ρ' h') (ds.drop 0) S1 with
      | no => simp only [List.drop_zero] at ec; rw [show compL (fun d => bindT t d (wipeE ρ vs)) (fun ρ' h' => evT C c ρ' h') (fun ρ' h' => evE C e ρ' h') ds S1 = .no from ec] at o; exact o
      | ex x h' => exact (compL_ex ec).elim
      | ok ps S2 => simp only [List.drop_zero] at ec; rw [show compL (fun d => bindT t d (wipeE ρ vs)) (fun ρ' h' => evT C c ρ' h') (fun ρ' h' => evE C e ρ' h') ds S1 = .ok ps S2 from ec] at o; simpa using o
    rintro i m H' ⟨rfl, hi, μ', S', accV, accP, l', rh', hD', ra, hal, oc⟩
    have Y := yy (fun a => Z a ∨ a = D) μ' S' H' l' rh' (fun a z => .inl z) hzz
    have re' : RelE X.kw (fun a => Z a ∨ a = D) μ' S' H' (wipeE ρ vs) (L2.wipe σ vs) := (RelE.hide l' hzz re1).wipe vs
    by_cases hlt : i < ds.length
    · refine .inr ?_
      have hd : ds[i]? = some ds[i] := List.getElem?_eq_getElem hlt
      obtain ⟨go, yl⟩ := Y.go i ds[i] μ' S' H' hd (Later.refl _ _ _) rh'
      refine ⟨go, Inv0 (i + 1), fun H2 q => ⟨ds.length - (i + 1), by omega, rfl, q⟩, fun x H'' hy => ?_⟩
      obtain ⟨ly, rhy, rdy⟩ := yl x H'' hy
      rw [List.drop_eq_getElem_cons hlt] at oc
      simp only [compL] at oc
      cases eb : bnd ds[i] with
      | none => simp only [eb] at oc
      | some ρ2 =>
        simp only [eb] at oc
        refine ⟨_, μ', wipeE ρ vs, S', ds[i], ρ2, rhy, re'.later ly, rdy, eb, fun σ2 re2 ch => ⟨(ch vs hix).trans (wipe_idem vs σ vs fun _ h => h), ?_⟩⟩
        refine ⟨_, μ', ρ2, S', rhy, re2, ?_⟩
        cases et : evT C c ρ2 S' with
        | no => simp only [et] at oc
        | ex y h' => simp only [et] at oc
        | ok b S3 =>
          intro b' μ3 H3 l3 rh3 eb'
          cases eb'
          have keepD : ∀ {μa Sa Ha μb Sb Hb} {w : List V}, Later μa Sa Ha μb Sb Hb → RelH X.kw (fun a => Z a ∨ a = D) μa Sa Ha → Ha D = some (.lst w) → Hb D = some (.lst w) := fun {μa Sa Ha μb Sb Hb w} l r hh => (l.keep D _ hh trivial fun ⟨n, o, h1, _, _⟩ => (r.zt D (.inr rfl)).2 (List.mem_of_getElem? h1)).1
          have l3' := (l'.trans ly).trans l3
          have hD3 := keepD (ly.trans l3) rh' hD'
          cases b with
          | false =>
            simp only [et] at oc
            simp only [Bool.false_eq_true, if_false]
            exact ⟨hlt, μ3, S3, accV, accP, l3', rh3, hD3, RpAll.later (ly.trans l3) ra, by omega, oc⟩
          | true =>
            simp only [et] at oc
            simp only [if_true]
            refine ⟨_, μ3, ρ2, S3, rh3, re2.later l3, ?_⟩
            cases ee : evE C e ρ2 S3 with
            | no => simp only [ee] at oc
            | ex y h' => simp only [ee] at oc
            | ok d S4 =>
              cases d with
              | ref n => simp only [ee] at oc
              | scr ns => simp only [ee] at oc
              | dct kvs => simp only [ee] at oc
              | exv x => simp only [ee] at oc
              | dat p =>
                simp only [ee] at oc
                intro y μ4 H4 l4 rh4 r4
                have hD4 := keepD l4 rh3 hD3
                have ra4 := RpAll.later ((ly.trans l3).trans l4) ra
                have hl2 := ra.length
                refine ⟨accV, hD4, by have := Y.len; omega, hlt, μ4, S4, accV ++ [y], accP ++ [p], ?_, rh4.hidW (.inr rfl), upd_same, ?_, by rw [List.length_append]; simp; omega, ?_⟩
                · have l5 := l3'.trans l4
                  refine ⟨l5.pre, fun a o h nt n => ?_, fun a o h => (l5.st a o h).elim fun o' h' => st_upd _ _ _ a o' h'⟩
                  have q := l5.keep a o h nt n
                  exact ⟨by rw [upd_ne (ne_of_none h hD)]; exact q.1, q.2⟩
                · exact RpAll.hidW (.inr (.inr rfl)) (ra4.append (.cons r4 .nil))
                · cases ec : compL bnd (fun ρ' h' => evT C c ρ' h') (fun ρ' h' => evE C e ρ' h') (ds.drop (i + 1)) S4 with
                  | no => rw [ec] at oc; exact oc
                  | ex y h' => rw [ec] at oc; exact oc
                  | ok ps S5 =>
                    rw [ec] at oc
                    simp only [R.bind_ok] at oc
                    simpa using oc
    · refine .inl ⟨Y.stop i μ' S' H' (by omega) (Later.refl _ _ _) rh', ?_⟩
      have e : i = ds.length := by omega
      subst e
      rw [List.drop_length] at oc
      simp only [compL, List.append_nil] at oc
      have hal' : accP.length ≤ sizeLine := Nat.le_trans hal Y.len
      have un : ∀ a, Z a → Z a ∨ a = D := fun a z => .inl z
      refine oc (.ref D) μ' H' (l1.trans l') (rh'.unhide un) (Rp.lst ⟨.inl hD', fun z => ?_⟩ hal' (RpAll.unhide (fun a y => y.elim .inl fun z => .inr (.inl z)) ra))
      have nD := rh'.zt D (.inr rfl)
      rcases z with ⟨n, o, h1, _, _⟩ | z
      · exact nD.2 (List.mem_of_getElem? h1)
      · obtain ⟨⟨o, e⟩, _⟩ := rh1.zt D z
        rw [hD] at e
        cases e
theorem sE_comp {elt tg iter : Expr} {ifs : List Expr} {scope : Scope} {own : List (Str × Nat)} {pos : Pos} {t : Tg} {it : IT} {c : CO} {e : CE} (hc : X.calm = true) (hN : X.N.Nodup) (hi : PI X tg iter (tI X.kw (evI C it))) (ok : BlkOk X.N X.env.scope scope own) (hix : ∀ i ∈ t.ix, i ∈ own.map (·.2))
    (hg : ∀ (s : Shared) (H : Hp) (Cc : Addr) (cl : List (Str × Addr)) (fp : List Addr), PG (X.blk s H scope (compEnvC scope cl Cc X.env) fp) tg (gT X.kw t)) (ht : ∀ (s : Shared) (H : Hp) (Cc : Addr) (cl : List (Str × Addr)) (fp : List Addr), PTs (X.blk s H scope (compEnvC scope cl Cc X.env) fp) ifs (tTs (X.blk s H scope (compEnvC scope cl Cc X.env) fp).kw (evT C c)))
    (he : ∀ (s : Shared) (H : Hp) (Cc : Addr) (cl : List (Str × Addr)) (fp : List Addr), PE (X.blk s H scope (compEnvC scope cl Cc X.env) fp) elt (tE (X.blk s H scope (compEnvC scope cl Cc X.env) fp).kw (evE C e))) (hs : ∀ x, foldedSetIterable iter X.env x = pure x) :
    PE X (.ListComp elt [⟨tg, iter, ifs, 0⟩] scope pos) (tE X.kw (evE C (.comp e t (own.map (·.2)) it c))) :=
  PE_wk (pe_lc hc hN hi ok hg (fun s H Cc cl fp => PTs_wk (ht s H Cc cl fp) fun _ _ _ h => tT_no (K := X.kw) (K' := (X.blk s H scope (compEnvC scope cl Cc X.env) fp).kw) rfl h) (fun s H Cc cl fp => PE_wk (he s H Cc cl fp) fun _ _ _ h => tE_no (K := X.kw) (K' := (X.blk s H scope (compEnvC scope cl Cc X.env) fp).kw) rfl h) hs) fun σ H Q h => comp_rd hix h
end
end L2.LC

/-! LC: statements, tables, calls. -/
namespace L2.LC
open PySem PySem.Spec PyProof.Rows
/-- a flow is as wanted -/
def OutF (K : Kx) (Z : Addr → Prop) (μ : List Addr) (S : Hs) (H : Hp) (r : R Fl) (E : Ends) : Prop :=
  match r with
  | .ok (.nx ρ) S' => ∀ σ' μ' H', Later μ S H μ' S' H' → RelH K Z μ' S' H' → RelE K Z μ' S' H' ρ σ' → E.nx σ' H'
  | .ok (.rt d) S' => ∀ v μ' H', Later μ S H μ' S' H' → RelH K Z μ' S' H' → RelD K Z μ' S' H' d v → E.rt v H'
  | .ok (.bk ρ) S' => ∀ σ' μ' H', Later μ S H μ' S' H' → RelH K Z μ' S' H' → RelE K Z μ' S' H' ρ σ' → E.bk σ' H'
  | .ok (.ct ρ) S' => ∀ σ' μ' H', Later μ S H μ' S' H' → RelH K Z μ' S' H' → RelE K Z μ' S' H' ρ σ' → E.ct σ' H'
  | .ex x S' => ∀ cls d μ' H', Later μ S H μ' S' H' → RelH K Z μ' S' H' → RelX K (Lv Z μ' S') H' x cls d → K.xk cls d H'
  | .no => False
def tF (K : Kx) (m : En → Hs → R Fl) : TS := fun E σ H => ∃ Z μ ρ S, RelH K Z μ S H ∧ RelE K Z μ S H ρ σ ∧ OutF K Z μ S H (m ρ S) E
section
variable {K : Kx} {Z : Addr → Prop} {μ μ1 : List Addr} {S S1 : Hs} {H H1 : Hp} {α β : Type} {Rl : List Addr → Hs → Hp → α → β → Prop}
theorem OutF.later {r : R Fl} {E : Ends} (h : OutF K Z μ S H r E) (l : Later μ S H μ1 S1 H1) : OutF K Z μ1 S1 H1 r E := by
  cases r with
  | ok a S' => cases a <;> exact fun v μ' H' l' => h v μ' H' (l.trans l')
  | ex x S' => exact fun cls d μ' H' l' => h cls d μ' H' (l.trans l')
  | no => exact h
theorem OutF.bind {r : R α} {f : α → Hs → R Fl} {E : Ends} {Q' : β → Hp → Prop} (h : OutF K Z μ S H (r.bind f) E)
    (k : ∀ a S1 v μ1 H1, r = .ok a S1 → Later μ S H μ1 S1 H1 → RelH K Z μ1 S1 H1 → Rl μ1 S1 H1 a v → OutF K Z μ1 S1 H1 (f a S1) E → Q' v H1) : Out K Z Rl μ S H r Q' := by
  cases r with
  | ok a S' => exact fun v μ' H' l rh rv => k a S' v μ' H' rfl l rh rv (OutF.later (show OutF K Z μ S H (f a S') E from h) l)
  | ex x S' => exact h
  | no => exact h
theorem OutF.nx {ρ : En} {σ : St} {E : Ends} (h : OutF K Z μ S H (.ok (.nx ρ) S) E) (rh : RelH K Z μ S H) (re : RelE K Z μ S H ρ σ) : E.nx σ H := h σ μ H (Later.refl _ _ _) rh re
end
section
variable {X : Cx} {C : Calls}
def isComp : Expr → Bool
  | .ListComp .. => true
  | .SetComp .. => true
  | .DictComp .. => true
  | _ => false
theorem sw_false {e : Expr} {t : Option Expr} {l : Nat} {env : Env} (h : isComp e = false) : swapsWith e t l env = pure false := by
  cases e <;> first | rfl | (simp [isComp] at h)
theorem sS_nil : PSs X [] (tF X.kw (evSs C .nil)) := PSs_wk pss_nil fun E σ H ⟨Z, μ, ρ, S, rh, re, o⟩ => OutF.nx o rh re
theorem sS_cons {st : Stmt} {rest : List Stmt} {c : CS} {cs : CSs} (h : PS X st (tF X.kw (evS C c))) (hs : PSs X rest (tF X.kw (evSs C cs))) : PSs X (st :: rest) (tF X.kw (evSs C (.cons c cs))) := by
  refine PSs_wk (pss_cons h hs) fun E σ H ⟨Z, μ, ρ, S, rh, re, o⟩ => ?_
  simp only [evSs] at o
  refine ⟨Z, μ, ρ, S, rh, re, ?_⟩
  cases e : evS C c ρ S with
  | no => rw [e] at o; exact o
  | ex x h' => rw [e] at o; exact o
  | ok fl S1 =>
    rw [e] at o
    simp only [R.bind_ok] at o
    cases fl with
    | nx ρ1 => exact fun σ' μ' H' l rh' re' => ⟨Z, μ', ρ1, S1, rh', re', OutF.later o l⟩
    | rt d => exact o
    | bk ρ1 => exact o
    | ct ρ1 => exact o
theorem sS_ret {e : Expr} {c : CE} {pos : Pos} (h : PE X e (tE X.kw (evE C c))) : PS X (.Return (some e) pos) (tF X.kw (evS C (.ret c))) := by
  refine PS_wk (ps_ret h) fun E σ H ⟨Z, μ, ρ, S, rh, re, o⟩ => ?_
  simp only [evS] at o
  exact ⟨Z, μ, ρ, S, rh, re, o.bind fun d S1 v μ1 H1 _ l1 rh1 r1 o1 => o1 v μ1 H1 (Later.refl _ _ _) rh1 r1⟩
theorem sS_drop {e : Expr} {c : CE} {pos : Pos} (h : PE X e (tE X.kw (evE C c))) (hc : isComp e = false) : PS X (.Expr e pos) (tF X.kw (evS C (.drop c))) := by
  refine PS_wk (ps_expr h (sw_false hc)) fun E σ H ⟨Z, μ, ρ, S, rh, re, o⟩ => ?_
  simp only [evS] at o
  exact ⟨Z, μ, ρ, S, rh, re, o.bind fun d S1 v μ1 H1 _ l1 rh1 r1 o1 => OutF.nx o1 rh1 (re.later l1)⟩
theorem sS_never {st : Stmt} : PS X st (tF X.kw (evS C .never)) := PS_wk ps_never fun E σ H ⟨Z, μ, ρ, S, rh, re, o⟩ => o
theorem sS_cond {c : Expr} {a b : List Stmt} {cc : CE} {ca cb : CSs} {pos : Pos} (hc : PT X c (tTs X.kw (evB C cc))) (ha : PSs X a (tF X.kw (evSs C ca))) (hb : PSs X b (tF X.kw (evSs C cb))) : PS X (.If c a b pos) (tF X.kw (evS C (.cond cc ca cb))) := by
  refine PS_wk (ps_if hc ha hb) fun E σ H ⟨Z, μ, ρ, S, rh, re, o⟩ => ?_
  simp only [evS] at o
  refine ⟨Z, μ, ρ, S, rh, re, o.bind (Rl := RelB) fun t S1 v μ1 H1 _ l1 rh1 r1 o1 => ?_⟩
  cases r1
  cases t with
  | true => simp only [if_true] at o1 ⊢; exact ⟨Z, μ1, ρ, S1, rh1, re.later l1, o1⟩
  | false => simp only [Bool.false_eq_true, if_false] at o1 ⊢; exact ⟨Z, μ1, ρ, S1, rh1, re.later l1, o1⟩
/-- target = value -/
theorem asg_rd {t : Tg} {c : CE} {E : Ends} {σ : St} {H : Hp} (h : tF X.kw (evS C (.asg t c)) E σ H) : tAsg (tE X.kw (evE C c)) (gT X.kw t) E σ H := by
  obtain ⟨Z, μ, ρ, S, rh, re, o⟩ := h
  simp only [evS] at o
  refine ⟨Z, μ, ρ, S, rh, re, o.bind fun d S1 v μ1 H1 _ l1 rh1 r1 o1 => ?_⟩
  cases e : bindT t d ρ with
  | none => rw [e] at o1; exact o1.elim
  | some ρ' =>
    rw [e] at o1
    exact ⟨Z, μ1, ρ, S1, d, ρ', rh1, re.later l1, r1, e, fun σ' re' _ => OutF.nx o1 rh1 re'⟩
theorem asgN_rd {i : Nat} {c : CE} {E : Ends} {σ : St} {H : Hp} (h : tF X.kw (evS C (.asg (.name i) c)) E σ H) : tAsg (tE X.kw (evE C c)) (gName i) E σ H := by
  obtain ⟨Z, μ, ρ, S, rh, re, o⟩ := h
  simp only [evS, bindT, Option.map_some, R.of_some] at o
  exact ⟨Z, μ, ρ, S, rh, re, o.bind fun d S1 v μ1 H1 _ l1 rh1 r1 o1 => OutF.nx o1 rh1 ((re.later l1).set i r1)⟩
theorem sS_set {i : Nat} {x : Str} {e : Expr} {c : CE} {pos pos' : Pos} (hN : X.N.Nodup) (hi : X.N[i]? = some x) (hx : Loc X.env.scope x) (hf : X.fn x = true ∨ X.env.scope.names.lookup x = some .local) (he : PE X e (tE X.kw (evE C c))) (hs : swapsWith e (some (.Name x pos')) pos.line X.env = pure false) :
    PS X (.Assign [.Name x pos'] e pos) (tF X.kw (evS C (.asg (.name i) c))) := PS_wk (ps_set hN hi hx he hs hf) fun E σ H h => asgN_rd h
theorem sS_setLc {i : Nat} {y : Str} {py : Pos} {elt tg iter : Expr} {ifs : List Expr} {scope : Scope} {own : List (Str × Nat)} {pos spos : Pos} {t : Tg} {it : IT} {c : CO} {e : CE} (hc : X.calm = true) (hN : X.N.Nodup) (hy : X.N[i]? = some y) (hyl : X.env.scope.names.lookup y = some .local)
    (hsw : swapsWith (.ListComp elt [⟨tg, iter, ifs, 0⟩] scope pos) (some (.Name y py)) spos.line X.env = pure true) (hi : PI X tg iter (tI X.kw (evI C it))) (ok : BlkOk X.N X.env.scope scope own) (hix : ∀ i ∈ t.ix, i ∈ own.map (·.2))
    (hg : ∀ (s : Shared) (H : Hp) (Cc : Addr) (cl : List (Str × Addr)) (fp : List Addr), PG (X.blk s H scope (compEnvC scope cl Cc X.env) fp) tg (gT X.kw t)) (ht : ∀ (s : Shared) (H : Hp) (Cc : Addr) (cl : List (Str × Addr)) (fp : List Addr), PTs (X.blk s H scope (compEnvC scope cl Cc X.env) fp) ifs (tTs (X.blk s H scope (compEnvC scope cl Cc X.env) fp).kw (evT C c)))
    (he : ∀ (s : Shared) (H : Hp) (Cc : Addr) (cl : List (Str × Addr)) (fp : List Addr), PE (X.blk s H scope (compEnvC scope cl Cc X.env) fp) elt (tE (X.blk s H scope (compEnvC scope cl Cc X.env) fp).kw (evE C e))) (hs : ∀ x, foldedSetIterable iter X.env x = pure x) :
    PS X (.Assign [.Name y py] (.ListComp elt [⟨tg, iter, ifs, 0⟩] scope pos) spos) (tF X.kw (evS C (.asg (.name i) (.comp e t (own.map (·.2)) it c)))) := by
  refine PS_wk (ps_setLc hc hN hy hyl hsw hi ok hg (fun s H Cc cl fp => PTs_wk (ht s H Cc cl fp) fun _ _ _ h => tT_no (K := X.kw) (K' := (X.blk s H scope (compEnvC scope cl Cc X.env) fp).kw) rfl h) (fun s H Cc cl fp => PE_wk (he s H Cc cl fp) fun _ _ _ h => tE_no (K := X.kw) (K' := (X.blk s H scope (compEnvC scope cl Cc X.env) fp).kw) rfl h) hs) fun E σ H h => ?_
  have q := asgN_rd h
  exact comp_rd hix q
theorem sS_asg {tg e : Expr} {t : Tg} {c : CE} {pos : Pos} (he : PE X e (tE X.kw (evE C c))) (hg : PG X tg (gT X.kw t)) (hs : swapsWithSole [tg] e pos.line X.env = pure false) (hw : swappedStores [tg] e X.env = pure none) (h1 : (assignEach [tg] X.env).map (·.2) = [assign tg X.env]) :
    PS X (.Assign [tg] e pos) (tF X.kw (evS C (.asg t c))) := PS_wk (ps_asg he hg hs hw h1) fun E σ H h => asg_rd h
theorem sS_par {i j : Nat} {x y : Str} {a b : Expr} {ca cb : CE} {px py pt pos : Pos} {kt k2 : Nat} {pt2 : Pos} (hc : X.calm = true) (hN : X.N.Nodup) (hi : X.N[i]? = some x) (hj : X.N[j]? = some y) (hij : i ≠ j) (hx : X.env.scope.names.lookup x = some .local) (hy : X.env.scope.names.lookup y = some .local)
    (ha : PE X a (tE X.kw (evE C ca))) (hb : PE X b (tE X.kw (evE C cb))) (hsa : notStar a = true) (hsb : notStar b = true)
    (hw : swappedStores [.Tuple [.Name x px, .Name y py] kt pt] (.Tuple [a, b] k2 pt2) X.env = pure (some [x, y])) :
    PS X (.Assign [.Tuple [.Name x px, .Name y py] kt pt] (.Tuple [a, b] k2 pt2) pos) (tF X.kw (evS C (.par i j ca cb))) := by
  refine PS_wk (ps_par hc hN hi hj hij hx hy (PA2 ha hb hsa hsb) hw) fun E σ H ⟨Z, μ, ρ, S, rh, re, o⟩ => ?_
  simp only [evS] at o
  refine ⟨Z, μ, ρ, S, rh, re, o.bind fun d S1 v μ1 H1 _ l1 rh1 r1 o1 => ?_⟩
  refine ⟨Z, μ1, ρ, S1, rh1, re.later l1, o1.bind fun d2 S2 v2 μ2 H2 _ l2 rh2 r2 o2 => ?_⟩
  exact ⟨v, v2, rfl, OutF.nx o2 rh2 ((((re.later l1).later l2).set i (r1.later l2)).set j r2)⟩
theorem sS_par3 {i j l : Nat} {x y z : Str} {a b c : Expr} {ca cb cc : CE} {px py pz pt pos : Pos} {kt k2 : Nat} {pt2 : Pos} (hc : X.calm = true) (hN : X.N.Nodup) (hi : X.N[i]? = some x) (hj : X.N[j]? = some y) (hl : X.N[l]? = some z) (hij : i ≠ j) (hil : i ≠ l) (hjl : j ≠ l)
    (hx : X.env.scope.names.lookup x = some .local) (hy : X.env.scope.names.lookup y = some .local) (hz : X.env.scope.names.lookup z = some .local)
    (ha : PE X a (tE X.kw (evE C ca))) (hb : PE X b (tE X.kw (evE C cb))) (hcc : PE X c (tE X.kw (evE C cc))) (hsa : notStar a = true) (hsb : notStar b = true) (hsc : notStar c = true)
    (hw : swappedStores [.Tuple [.Name x px, .Name y py, .Name z pz] kt pt] (.Tuple [a, b, c] k2 pt2) X.env = pure (some [x, y, z])) :
    PS X (.Assign [.Tuple [.Name x px, .Name y py, .Name z pz] kt pt] (.Tuple [a, b, c] k2 pt2) pos) (tF X.kw (evS C (.par3 i j l ca cb cc))) := by
  refine PS_wk (ps_par3 hc hN hi hj hl hij hil hjl hx hy hz (pa_cons ha (PA2 hb hcc hsb hsc) (star_cons hsa)) hw) fun E σ H ⟨Z, μ, ρ, S, rh, re, o⟩ => ?_
  simp only [evS] at o
  refine ⟨Z, μ, ρ, S, rh, re, o.bind fun d S1 v μ1 H1 _ l1 rh1 r1 o1 => ?_⟩
  refine ⟨Z, μ1, ρ, S1, rh1, re.later l1, o1.bind fun d2 S2 v2 μ2 H2 _ l2 rh2 r2 o2 => ?_⟩
  refine ⟨Z, μ2, ρ, S2, rh2, (re.later l1).later l2, o2.bind fun d3 S3 v3 μ3 H3 _ l3 rh3 r3 o3 => ?_⟩
  exact ⟨v, v2, v3, rfl, OutF.nx o3 rh3 ((((((re.later l1).later l2).later l3).set i ((r1.later l2).later l3)).set j (r2.later l3)).set l r3)⟩
/-! ### xs.append(e) -/
theorem RelH.write {K : Kw} {Z : Addr → Prop} {μ : List Addr} {S : Hs} {H : Hp} (rh : RelH K Z μ S H) {n : Nat} {a : Addr} {o o' : Ob} {u : HO} (hs : S[n]? = some o) (hl : o.live = true) (hl' : o'.live = true) (hm : μ[n]? = some a) (ho : ObR K Z μ (S.set n o') (upd H a u) o' a) :
    Later μ S H μ (S.set n o') (upd H a u) ∧ RelH K Z μ (S.set n o') (upd H a u) := by
  have hn : n < S.length := (List.getElem?_eq_some_iff.mp hs).1
  have live : ∀ b, Live μ (S.set n o') b → Live μ S b := fun b ⟨m, w, h1, h2, h3⟩ => by
    by_cases e : m = n
    · subst e
      exact ⟨m, o, h1, hs, hl⟩
    · rw [List.getElem?_set_ne (Ne.symm e)] at h2
      exact ⟨m, w, h1, h2, h3⟩
  have lv : Live μ S a := ⟨n, o, hm, hs, hl⟩
  have l : Later μ S H μ (S.set n o') (upd H a u) := ⟨⟨[], by simp⟩, fun b w h _ nl => ⟨by rw [upd_ne (show b ≠ a from fun e => nl (by rw [e]; exact lv))]; exact h, fun z => nl (live b z)⟩, st_upd H a u⟩
  refine ⟨l, ⟨rh.tb.mono fun b w e n => ⟨by rw [upd_ne (show b ≠ a from fun e => n (by rw [e]; exact .inl lv))]; exact e, fun z => n (z.elim (fun y => .inl (live b y)) .inr)⟩, fun b hb => ?_, by simp [rh.len], rh.nd, fun b hb => ?_, fun m w b h1 h2 => ?_⟩⟩
  · obtain ⟨⟨w, e⟩, nb⟩ := rh.zt b hb
    have ne : b ≠ a := fun e => nb (e ▸ List.mem_of_getElem? hm)
    exact ⟨⟨w, by rw [upd_ne ne]; exact e⟩, nb⟩
  · by_cases e : b = a
    · subst e; exact ⟨u, upd_same⟩
    · rw [upd_ne e]; exact rh.tr b hb
  · by_cases e : m = n
    · subst e
      rw [List.getElem?_set_self hn] at h1
      cases h1
      rw [hm] at h2
      cases h2
      exact ho
    · rw [List.getElem?_set_ne (Ne.symm e)] at h1
      have ne : b ≠ a := by
        rintro rfl
        obtain ⟨g1, e1⟩ := List.getElem?_eq_some_iff.mp h2
        obtain ⟨g2, e2⟩ := List.getElem?_eq_some_iff.mp hm
        exact e ((List.getElem_inj rh.nd).mp (e1.trans e2.symm))
      exact (rh.ob m w b h1 h2).later l fun z q => by rw [upd_ne ne]; exact q
def notSuper : Expr → Bool
  | .Call .. => false
  | _ => true
theorem base_ok {o : Expr} {a : Str} {env : Env} (h : notSuper o = true) : attributeBase o a env (eval o env) = eval o env := by
  cases o <;> first | rfl | (simp [notSuper] at h)
theorem few_ok {e : Expr} {env : Env} {cpos : Pos} (h : notStar e = true) : ((backTo cpos (starEach [e] env)).all (fun x => !x.1) && (backToKw cpos (keywordEach [] env)).all (fun x => x.1.isSome)
      && decide (([e] : List Expr).length + ([] : List Keyword).length + (if ([] : List Keyword).isEmpty then 0 else 1) < 30)) = true := by
  rw [star_cons h]
  rfl
theorem sS_app {o e : Expr} {co ce : CE} {apos cpos pos : Pos} (ho : PE X o (tE X.kw (evE C co))) (he : PE X e (tE X.kw (evE C ce))) (hso : notSuper o = true) (hse : notStar e = true) (hline : (apos.endLine == cpos.line) = true) :
    PS X (.Expr (.Call (.Attribute o "append" apos) [e] [] cpos) pos) (tF X.kw (evS C (.app co ce))) := by
  refine PS_wk (ps_expr (pe_bm PySem.F.plainAttrs_list PySem.F.slot_list_append PySem.F.type_list_append mt_append ho (PA1 he hse) (base_ok hso) (few_ok hse) hline (star_cons hse) (by rfl)) rfl) fun E σ H ⟨Z, μ, ρ, S, rh, re, oo⟩ => ?_
  simp only [evS] at oo
  refine ⟨Z, μ, ρ, S, rh, re, oo.bind fun d S1 v μ1 H1 _ l1 rh1 r1 o1 => ?_⟩
  cases en : lstAt S1 d with
  | none => simp only [en] at o1; exact o1.elim
  | some n =>
    simp only [en] at o1
    cases d with
    | dat p => simp [lstAt] at en
    | scr ns => simp [lstAt] at en
    | dct kvs => simp [lstAt] at en
    | exv x => simp [lstAt] at en
    | ref m =>
      obtain ⟨a, rfl, ha⟩ := r1
      simp only [lstAt] at en
      split at en
      · rename_i xs0 hx0
        have en' := Option.some.inj en
        subst en'
        obtain ⟨vs0, g1, g2, g3⟩ := rh1.ob m _ a hx0 ha
        refine ⟨.inl ⟨rfl, vs0, .inl (.inl g1)⟩, Z, μ1, ρ, S1, rh1, re.later l1, ?_⟩
        refine o1.bind fun y S2 w μ2 H2 _ l2 rh2 r2 o2 => ?_
        unfold appAt at o2
        split at o2
        · rename_i xs hx
          split at o2
          · rename_i hz
            obtain ⟨vs, h1, h2, h3⟩ := rh2.ob m _ a hx (l2.at ha)
            have hm := l2.at ha
            refine ⟨a, vs, w, rfl, rfl, h1, by rw [← h3.length]; exact hz, ?_⟩
            -- the list is longer
            have l3 : Later μ2 S2 H2 μ2 (S2.set m (.lst (xs ++ [y]))) (upd H2 a (.lst (vs ++ [w]))) := by
              have lv : Live μ2 S2 a := ⟨m, _, hm, hx, rfl⟩
              refine ⟨⟨[], by simp⟩, fun b u h _ nl => ⟨by rw [upd_ne (show b ≠ a from fun e => nl (by rw [e]; exact lv))]; exact h, fun ⟨k, u', q1, q2, q3⟩ => ?_⟩, st_upd _ _ _⟩
              by_cases e : k = m
              · subst e
                rw [hm] at q1
                cases q1
                exact nl lv
              · rw [List.getElem?_set_ne (Ne.symm e)] at q2
                exact nl ⟨k, u', q1, q2, q3⟩
            have k := rh2.write (o' := .lst (xs ++ [y])) (u := .lst (vs ++ [w])) hx rfl rfl hm ⟨vs ++ [w], upd_same, by rw [List.length_append]; simp; omega, Paired.snoc (RelDs.later l3 h3) (r2.later l3)⟩
            exact o2 σ μ2 _ k.1 k.2 (((re.later l1).later l2).later k.1)
          · exact o2.elim
        · exact o2.elim
      · cases en
end
end L2.LC

/-! LC: loops, tables, calls, defs. -/
namespace L2.LC
open PySem PySem.Spec PyProof.Rows
section
variable {X : Cx} {C : Calls}
theorem sS_for {tg iter : Expr} {body : List Stmt} {t : Tg} {it : IT} {b : CSs} {pos : Pos} (hp : PassesOwn (model X.prog X.w) X.A X.env X.xe) (hc : X.calm = true) (hi : PI X tg iter (tI X.kw (evI C it))) (hg : PG X tg (gT X.kw t)) (hb : PSs X body (tF X.kw (evSs C b)))
    (hs : ∀ x, foldedSetIterable iter X.env x = pure x) : PS X (.For tg iter body [] pos) (tF X.kw (evS C (.loop t it b))) := by
  refine PS_wk (ps_for hp hc hi hg hb hs) fun E σ H ⟨Z, μ, ρ, S, rh, re, o⟩ => ?_
  simp only [evS] at o
  refine ⟨Z, μ, ρ, S, rh, re, ?_⟩
  cases ei : evI C it ρ S with
  | no => rw [ei] at o; exact o
  | ex x h' => rw [ei] at o; exact o
  | ok ds S1 =>
    rw [ei] at o
    simp only [R.bind_ok] at o
    intro J μ1 H1 l1 rh1 yy
    have Y := yy Z μ1 S1 H1 (Later.refl _ _ _) rh1 (fun a z => z) (fun a z n => absurd z n)
    let Inv0 : Nat → St → Hp → Prop := fun i σ' H' => i ≤ ds.length ∧ ∃ μ' ρ' S', Later μ1 S1 H1 μ' S' H' ∧ RelH X.kw Z μ' S' H' ∧ RelE X.kw Z μ' S' H' ρ' σ' ∧ OutF X.kw Z μ' S' H' (forL (fun d ρ => bindT t d ρ) (fun ρ h => evSs C b ρ h) (ds.drop i) ρ' S') E
    refine ⟨fun i m σ' H' => m = ds.length - i ∧ Inv0 i σ' H', ⟨ds.length, by simp, Nat.zero_le _, μ1, ρ, S1, Later.refl _ _ _, rh1, re.later l1, by simpa using o.later l1⟩, ?_⟩
    rintro i m σ' H' ⟨rfl, hi, μ', ρ', S', l', rh', re', o'⟩
    by_cases hlt : i < ds.length
    · refine .inr ?_
      have hd : ds[i]? = some ds[i] := List.getElem?_eq_getElem hlt
      obtain ⟨go, yl⟩ := Y.go i ds[i] μ' S' H' hd l' rh'
      refine ⟨go, Inv0 (i + 1), fun σ2 H2 q => ⟨ds.length - (i + 1), by omega, rfl, q⟩, fun x H'' hy => ?_⟩
      obtain ⟨ly, rhy, rdy⟩ := yl x H'' hy
      rw [List.drop_eq_getElem_cons hlt] at o'
      simp only [forL] at o'
      cases eb : bindT t ds[i] ρ' with
      | none => simp only [eb] at o'; exact o'.elim
      | some ρ2 =>
        simp only [eb] at o'
        refine ⟨Z, μ', ρ', S', ds[i], ρ2, rhy, re'.later ly, rdy, eb, fun σ2 re2 _ => ?_⟩
        refine ⟨Z, μ', ρ2, S', rhy, re2, ?_⟩
        have o2 := o'.later ly
        cases ec : evSs C b ρ2 S' with
        | no => rw [ec] at o2; exact o2
        | ex y h' => rw [ec] at o2; exact o2
        | ok fl S2 =>
          rw [ec] at o2
          simp only [R.bind_ok] at o2
          cases fl with
          | nx ρ3 => exact fun σ3 μ3 H3 l3 rh3 re3 => ⟨hlt, μ3, ρ3, S2, (l'.trans ly).trans l3, rh3, re3, o2.later l3⟩
          | ct ρ3 => exact fun σ3 μ3 H3 l3 rh3 re3 => ⟨hlt, μ3, ρ3, S2, (l'.trans ly).trans l3, rh3, re3, o2.later l3⟩
          | bk ρ3 => exact fun σ3 μ3 H3 l3 rh3 re3 => o2 σ3 μ3 H3 l3 rh3 re3
          | rt d => exact fun v μ3 H3 l3 rh3 r3 => o2 v μ3 H3 l3 rh3 r3
    · refine .inl ⟨Y.stop i μ' S' H' (by omega) l' rh', ?_⟩
      rw [List.drop_eq_nil_of_le (by omega)] at o'
      simp only [forL] at o'
      exact OutF.nx o' rh' re'
theorem sS_whl {c : Expr} {body : List Stmt} {cc : CE} {b : CSs} {pos : Pos} (hp : PassesOwn (model X.prog X.w) X.A X.env X.xe) (hc : PT X c (tTs X.kw (evB C cc))) (hb : PSs X body (tF X.kw (evSs C b))) : PS X (.While c body [] pos) (tF X.kw (evS C (.whl cc b))) := by
  refine PS_wk (ps_while hp hc hb) fun E σ H ⟨Z, μ, ρ, S, rh, re, o⟩ => ?_
  simp only [evS] at o
  refine ⟨fun m σ' H' => ∃ Z μ' ρ' S', RelH X.kw Z μ' S' H' ∧ RelE X.kw Z μ' S' H' ρ' σ' ∧ OutF X.kw Z μ' S' H' (whlL (fun ρ h => asB (evE C cc ρ h)) (fun ρ h => evSs C b ρ h) m ρ' S') E, ⟨turns, Z, μ, ρ, S, rh, re, o⟩, ?_⟩
  rintro m σ' H' ⟨Z, μ', ρ', S', rh', re', o'⟩
  cases m with
  | zero => exact o'.elim
  | succ m =>
    simp only [whlL] at o'
    refine ⟨Z, μ', ρ', S', rh', re', o'.bind (Rl := RelB) fun t S1 v μ1 H1 _ l1 rh1 r1 o1 => ?_⟩
    cases r1
    cases t with
    | false => simp only [Bool.false_eq_true, if_false] at o1 ⊢; exact OutF.nx o1 rh1 (re'.later l1)
    | true =>
      simp only [if_true] at o1 ⊢
      refine ⟨fun σ2 H2 => ∃ Z μ' ρ' S', RelH X.kw Z μ' S' H2 ∧ RelE X.kw Z μ' S' H2 ρ' σ2 ∧ OutF X.kw Z μ' S' H2 (whlL (fun ρ h => asB (evE C cc ρ h)) (fun ρ h => evSs C b ρ h) m ρ' S') E, fun σ2 H2 q => ⟨m, Nat.lt_succ_self _, q⟩, ?_⟩
      refine ⟨Z, μ1, ρ', S1, rh1, re'.later l1, ?_⟩
      cases ec : evSs C b ρ' S1 with
      | no => rw [ec] at o1; exact o1
      | ex y h' => rw [ec] at o1; exact o1
      | ok fl S2 =>
        rw [ec] at o1
        simp only [R.bind_ok] at o1
        cases fl with
        | nx ρ3 => exact fun σ3 μ3 H3 l3 rh3 re3 => ⟨Z, μ3, ρ3, S2, rh3, re3, o1.later l3⟩
        | ct ρ3 => exact fun σ3 μ3 H3 l3 rh3 re3 => ⟨Z, μ3, ρ3, S2, rh3, re3, o1.later l3⟩
        | bk ρ3 => exact fun σ3 μ3 H3 l3 rh3 re3 => o1 σ3 μ3 H3 l3 rh3 re3
        | rt d => exact fun v μ3 H3 l3 rh3 r3 => o1 v μ3 H3 l3 rh3 r3
/-! ### a table of the module's top -/
theorem sE_tab {x : Str} {t : List (Str × PyData)} {p : Addr} {e : Expr} {c : CE} {px pos : Pos} (hg : Gl X x) (hm : X.mg x = some (.ref p)) (hd : (x == ("__debug__" : Str)) = false) (hT : ∀ z d, t.lookup z = some d → ∃ v, KDct X.K X.w p z v ∧ RpK X.K v d)
    (he : PE X e (tE X.kw (evE C c))) (hs : PlainIx e) : PE X (.Subscript (.Name x px) e pos) (tE X.kw (evE C (.tab x t c))) := by
  refine PE_wk (pe_ix ix_kdict (pe_glob (v := .ref p) hg hm rfl hd) he hs) fun σ H Q ⟨Z, μ, ρ, S, rh, re, o⟩ => ?_
  simp only [evE] at o
  refine ⟨Z, μ, ρ, S, rh, re, o.bind fun d S1 v μ1 H1 _ l1 rh1 r1 o1 => ?_⟩
  cases d with
  | ref n => exact o1.elim
  | scr ns => exact o1.elim
  | dct kvs => exact o1.elim
  | exv x => exact o1.elim
  | dat q =>
    cases q with
    | str z =>
      cases r1
      simp only at o1
      cases el : t.lookup z with
      | none => rw [el] at o1; exact o1.elim
      | some d =>
        rw [el] at o1
        obtain ⟨v, k, rp⟩ := hT z d el
        exact ⟨p, z, v, rfl, rfl, k, o1.ok rh1 (Rp.up rp)⟩
    | _ => exact o1.elim
/-! ### a list of the store is handed on as data -/
/-- a place is given up: what stood there is changed no more -/
theorem gone_later {K : Kw} {Z : Addr → Prop} {μ : List Addr} {S : Hs} {H : Hp} {n : Nat} {a : Addr} (rh : RelH K Z μ S H) (ha : μ[n]? = some a) (hn : n < S.length) : Later μ S H μ (S.set n .gone) H ∧ RelH K Z μ (S.set n .gone) H ∧ ¬ Lv Z μ (S.set n .gone) a := by
  have live : ∀ b, Live μ (S.set n .gone) b → Live μ S b ∧ b ≠ a := fun b ⟨m, w, q1, q2, q3⟩ => by
    by_cases e : m = n
    · subst e
      rw [List.getElem?_set_self hn] at q2
      cases q2
      cases q3
    · rw [List.getElem?_set_ne (Ne.symm e)] at q2
      refine ⟨⟨m, w, q1, q2, q3⟩, ?_⟩
      rintro rfl
      obtain ⟨g1, e1⟩ := List.getElem?_eq_some_iff.mp q1
      obtain ⟨g2, e2⟩ := List.getElem?_eq_some_iff.mp ha
      exact e ((List.getElem_inj rh.nd).mp (e1.trans e2.symm))
  have l : Later μ S H μ (S.set n .gone) H := ⟨⟨[], by simp⟩, fun b u h _ nl => ⟨h, fun z => nl (live b z).1⟩, fun b o h => ⟨o, h⟩⟩
  refine ⟨l, ⟨rh.tb.mono fun b u e n => ⟨e, fun z => n (z.elim (fun y => .inl (live b y).1) .inr)⟩, rh.zt, by simp [rh.len], rh.nd, rh.tr, fun m w b q1 q2 => ?_⟩, fun z => ?_⟩
  · by_cases e : m = n
    · subst e
      rw [List.getElem?_set_self hn] at q1
      cases q1
      trivial
    · rw [List.getElem?_set_ne (Ne.symm e)] at q1
      exact (rh.ob m w b q1 q2).later l fun _ q => q
  · rcases z with z | z
    · exact (live a z).2 rfl
    · exact (rh.zt a z).2 (List.mem_of_getElem? ha)
theorem tab_dct {K : Kw} {Z : Addr → Prop} {μ : List Addr} {S : Hs} {H : Hp} {L : Addr → Prop} : ∀ {kvs : List (PyData × D)} {qs : List (PyData × PyData)} {xs : List (NestedKey × Addr × Value)}, valsD kvs = some qs → Paired (EntR K H L (RelD K Z μ S H)) kvs xs → Paired (EntR K H L (fun p u => Rp K.fr H (Lv Z μ S) u p)) qs xs ∧ qs.length = kvs.length
  | [], qs, xs, e, r => by
    cases r
    cases e
    exact ⟨.nil, rfl⟩
  | (k, d) :: kvs, qs, xs, e, r => by
    cases r with
    | cons a b =>
      cases d with
      | dat p =>
        simp only [valsD] at e
        obtain ⟨qs', e1, e2⟩ := Option.map_eq_some_iff.mp e
        subst e2
        obtain ⟨h1, h2⟩ := tab_dct e1 b
        obtain ⟨k1, k2, k3, v, k4, k5⟩ := a
        exact ⟨.cons ⟨k1, k2, k3, v, k4, k5⟩ h1, by simp [h2]⟩
      | _ => simp [valsD] at e
theorem sE_frz {e : Expr} {c : CE} (h : PE X e (tE X.kw (evE C c))) : PE X e (tE X.kw (evE C (.frz c))) := by
  refine PE_wk h fun σ H Q ⟨Z, μ, ρ, S, rh, re, o⟩ => ?_
  simp only [evE] at o
  refine ⟨Z, μ, ρ, S, rh, re, o.bind fun d S1 v μ1 H1 _ l1 rh1 r1 o1 => ?_⟩
  cases d with
  | dat p => exact o1.ok rh1 r1
  | scr ns => exact o1.elim
  | dct kvs => exact o1.ok rh1 r1
  | exv x => exact o1.ok rh1 r1
  | ref n =>
    cases er : rd S1 (.ref n) with
    | none =>
      simp only [er] at o1
      cases et : tabD S1 n with
      | none => simp only [et] at o1; exact o1.elim
      | some qs =>
        simp only [et] at o1
        obtain ⟨a, rfl, ha⟩ := r1
        unfold tabD at et
        split at et
        · rename_i kvs hx
          have hn : n < S1.length := (List.getElem?_eq_some_iff.mp hx).1
          have tb : TabAt X.kw H1 (Lv Z μ1 S1) (RelD X.kw Z μ1 S1 H1) kvs a := rh1.ob n _ a hx ha
          obtain ⟨l, rh2, nl⟩ := gone_later rh1 ha hn
          refine o1 (.ref a) μ1 H1 l rh2 ⟨a, rfl, nl, ?_⟩
          obtain ⟨z, m, ob, es, ep, xs, h1, h2, h3, h4, h5, h6⟩ := tb
          obtain ⟨p1, p2⟩ := tab_dct et h6
          have tb2 : TabAt X.kw H1 (Lv Z μ1 S1) (fun p u => Rp X.kw.fr H1 (Lv Z μ1 S1) u p) qs a := ⟨by rw [p2]; exact z, m, ob, es, ep, xs, h1, h2, h3, h4, h5, p1⟩
          exact tb2.mono (fun u e => e) (fun v p r => Rp.later l r) fun p u r => Rp.later l r
        · cases et
    | some p =>
      simp only [er] at o1
      obtain ⟨a, rfl, ha⟩ := r1
      simp only [rd] at er
      split at er
      · rename_i xs hx
        cases eq : dats xs with
        | none => rw [eq] at er; cases er
        | some qs =>
          rw [eq] at er
          simp only [Option.map_some, Option.some.injEq] at er
          subst er
          have hn : n < S1.length := (List.getElem?_eq_some_iff.mp hx).1
          obtain ⟨vs, h1, h2, h3⟩ := rh1.ob n _ a hx ha
          obtain ⟨l, rh2, nl⟩ := gone_later rh1 ha hn
          exact o1 (.ref a) μ1 H1 l rh2 (Rp.lst ⟨.inl h1, nl⟩ (by rw [dats_length eq]; exact h2) (RpAll.later l (RpAll.of_dats h3 eq)))
      · cases er
/-! ### calls of defs -/
/-- a def's promise, where no guard (of a repr) stands around -/
structure FnG (P : Program) (w : World) (K : PySem.W.Frag) (mg : Str → Option Value) (base : Heap) (CX : CXT) (k : Nat) (f : Addr) (fd : FuncData) (ps : List Str) (sp : Sp) : Prop where
  len : ∀ vs H Q E, sp vs H Q E → vs.length = ps.length
  run : ∀ (A : Around) (outer : List Env) (s : Shared) (H : Hp) (args : Args) (us : List Value) (vs : List V) (Q : VK) (E : XK), Room k A → A.guards = some [] → Env0 P w K mg base A outer s H → BindsTo s fd args (ps.zip us) → Vals vs us → sp vs H Q E →
    codeAny (model P w) A (.call (.ref f) args) (CR CX outer P w H s Q E) s
section
variable {X : Cx} {CX : CXT} {k : Nat} {f : Addr} {fd : FuncData} {ps : List Str} {sp : Sp} {dvs : List V} {ds : List Value} {E : XK} {x : Str} {p pos : Pos} {e : Expr} {es : List Expr} {t : TA}
theorem run_G {pins : List (Addr × Obj)} {σ : St} {H : Hp} {s : Shared} {Q : VK} {us : List Value} {vs : List V} (F : FnG X.prog X.w X.K X.mg X.base CX k f fd ps sp) (hr : Room k X.A) (gd : X.A.guards = some []) (hb : Binds X.K fd ps ds) (hd : Vals dvs ds) (hx : Passes CX X E)
    (I : Inv X pins σ H s) (r : Vals vs us) (h : sp (vs ++ dvs) H Q E) : wpAny (model X.prog X.w) X.A (call (.ref f) us) (EP X pins σ Q) X.xe s := by
  have r2 := r.append hd
  have hl : (us ++ ds).length = ps.length := r2.length ▸ F.len _ _ _ _ h
  refine wpAny_call (codeAny_mono (F.run X.A X.stack s H ⟨us, []⟩ (us ++ ds) (vs ++ dvs) Q E hr gd I.env0 (hb s us I.kIn hl) r2 h) fun r s' hq => ?_)
  rcases r with e | fl
  · exact hx pins σ H s e s' I hq
  · cases fl <;> first | exact I.after hq | exact False.elim hq
theorem pe_callG (F : FnG X.prog X.w X.K X.mg X.base CX k f fd ps sp) (hr : Room k X.A) (gd : X.A.guards = some []) (hg : Gl X x) (hm : X.mg x = some (.ref f)) (hk : PySem.W.keepIn X.K (.ref f) = true) (hb : Binds X.K fd ps ds) (hd : Vals dvs ds) (hx : Passes CX X E)
    (ha : PA X (e :: es) t) (hdb : (x == ("__debug__" : Str)) = false) (he : starEach (e :: es) X.env = (false, eval e X.env) :: starEach es X.env) (hpl : (backTo pos (starEach es X.env)).any (·.1) = false) : PE X (.Call (.Name x p) (e :: es) [] pos) (tCall sp dvs E t) :=
  ⟨fun pins s σ H Q I h => wpAny_Call_Name_kw (ld_glob I hg hm (PySem.W.callWith_K (h₀ := X.base) I.ok.mod.kin hk (thn (ha.run pos pins s σ H _ I h) fun us s1 ⟨vs, H1, I1, r, q⟩ => ⟨I1.kIn, run_G F hr gd hb hd hx I1 r q⟩) he hpl) hdb)⟩
theorem pe_callG0 (F : FnG X.prog X.w X.K X.mg X.base CX k f fd ps sp) (hr : Room k X.A) (gd : X.A.guards = some []) (hg : Gl X x) (hm : X.mg x = some (.ref f)) (hk : PySem.W.keepIn X.K (.ref f) = true) (hb : Binds X.K fd ps ds) (hd : Vals dvs ds) (hx : Passes CX X E)
    (hdb : (x == ("__debug__" : Str)) = false) : PE X (.Call (.Name x p) [] [] pos) (tCall sp dvs E tNil) :=
  ⟨fun pins s σ H Q I h => wpAny_Call_Name_kw (ld_glob I hg hm (PySem.W.callWith_K0 I.kIn hk (run_G (us := []) F hr gd hb hd hx I .nil h)) hdb)⟩
end
theorem pass_x {X : Cx} : Passes (CX X.prog X.w) X (xX X) := passes_call takes_x fun _ _ _ _ h => h
/-- a def's promise by the core -/
def spF (K : Kw) (n : Nat) (m : List D → Hs → R D) : Sp := fun vs H Q E => ∃ Z μ S ds, RelH K Z μ S H ∧ RelDs K Z μ S H ds vs ∧ ds.length = n ∧ Out ⟨K, E⟩ Z (RelD K Z) μ S H (m ds S) Q
/-- data alone: the call runs over an empty store, all else is hidden -/
theorem sp_call {K : Kw} {n : Nat} {C : Calls} {fd : FD} {vs : List V} {H : Hp} {Q : VK} {E : XK} (h : spF K n (callF C fd) vs H Q E) : spF K n (runF C fd) vs H Q E := by
  obtain ⟨Z, μ, S, ds, rh, r, e, o⟩ := h
  cases ed : dats ds with
  | none =>
    simp only [callF, ed] at o
    exact ⟨Z, μ, S, ds, rh, r, e, o⟩
  | some ps =>
    have low : ∀ a, Lv (Lv Z μ S) [] [] a → Lv Z μ S a := fun a z => z.elim (fun ⟨n, o, q, _⟩ => by simp at q) id
    have rh0 : RelH K (Lv Z μ S) [] [] H := ⟨rh.tb.mono fun a o e n => ⟨e, fun z => n (low a z)⟩, fun a z => ⟨z.elim (fun ⟨n, o, q1, _⟩ => rh.tr a (List.mem_of_getElem? q1)) fun z => (rh.zt a z).1, List.not_mem_nil⟩, rfl, .nil, fun _ h => (nomatch h), fun n o a h => (by simp at h)⟩
    have r0 : RelDs K (Lv Z μ S) [] [] H ds vs := by
      have q := RpAll.of_dats r ed
      have : ∀ {ds : List D} {vs : List V} {ps : List PyData}, dats ds = some ps → RpAll K.fr H (Lv Z μ S) vs ps → RelDs K (Lv Z μ S) [] [] H ds vs := by
        intro ds
        induction ds with
        | nil => intro vs ps e q; cases e; cases q; exact .nil
        | cons d ds ih =>
          intro vs ps e q
          cases d with
          | dat p =>
            simp only [dats] at e
            obtain ⟨ps', e1, e2⟩ := Option.map_eq_some_iff.mp e
            subst e2
            cases q with
            | cons a b => exact .cons (Rp.unhide low a) (ih e1 b)
          | _ => simp [dats] at e
      exact this ed q
    have back : ∀ μ' S2 H', Later [] [] H μ' S2 H' → RelH K (Lv Z μ S) μ' S2 H' → Later μ S H μ S H' ∧ RelH K Z μ S H' := fun μ' S2 H' l r2 => by
      have keep : ∀ a u, H a = some u → noTbl u → H' a = some u := fun a u e nt => (l.keep a u e nt fun ⟨n, o, q, _⟩ => by simp at q).1
      have l' : Later μ S H μ S H' := ⟨⟨[], by simp⟩, fun a u e nt n => ⟨keep a u e nt, n⟩, l.st⟩
      refine ⟨l', r2.tb.mono fun a o e n => ⟨e, fun z => n (.inr z)⟩, fun a z => ⟨(rh.zt a z).1.elim fun u e => l.st a u e, (rh.zt a z).2⟩, rh.len, rh.nd, fun a z => (rh.tr a z).elim fun u e => l.st a u e, fun n u a q1 q2 => ?_⟩
      have q := rh.ob n u a q1 q2
      cases u with
      | lst ds => obtain ⟨vs, e, _⟩ := id q; exact q.later l' fun v e' => by rw [e] at e'; cases e'; exact keep a _ e trivial
      | dic kvs => obtain ⟨qs, e, _⟩ := id q; exact q.later l' fun v e' => by rw [e] at e'; cases e'; exact keep a _ e trivial
      | tab kvs => obtain ⟨_, _, _, _, _, _, e, _⟩ := id q; exact q.later l' fun v e' => by rw [e] at e'; cases e'; exact keep a _ e trivial
      | gone => trivial
    cases er : runF C fd ds [] with
    | no => simp only [callF, ed, er] at o; exact o.elim
    | ex x S2 =>
      simp only [callF, ed, er] at o
      refine ⟨Lv Z μ S, [], [], ds, rh0, r0, e, ?_⟩
      rw [er]
      intro cls d μ' H' l rh' rx
      obtain ⟨l', rh2⟩ := back μ' S2 H' l rh'
      exact o cls d μ H' l' rh2 (rx.mono (fun a u n e _ => ⟨e, fun z => n (.inr z)⟩) fun v p q => Rp.unhide (fun a z => .inr z) q)
    | ok d S2 =>
      cases d with
      | dat p =>
        simp only [callF, ed, er] at o
        refine ⟨Lv Z μ S, [], [], ds, rh0, r0, e, ?_⟩
        rw [er]
        intro v μ' H' l rh' rv
        obtain ⟨l', rh2⟩ := back μ' S2 H' l rh'
        exact o v μ H' l' rh2 (Rp.unhide (fun a z => .inr z) rv)
      | dct kvs =>
        simp only [callF, ed, er] at o
        refine ⟨Lv Z μ S, [], [], ds, rh0, r0, e, ?_⟩
        rw [er]
        intro v μ' H' l rh' rv
        obtain ⟨l', rh2⟩ := back μ' S2 H' l rh'
        exact o v μ H' l' rh2 (RelD.dctMono rv (fun v p y => Rp.unhide (fun a z => .inr z) y) fun a u n e _ => ⟨e, fun z => n (.inr z)⟩)
      | ref n => simp only [callF, ed, er] at o; exact ⟨Z, μ, S, ds, rh, r, e, o⟩
      | scr ns => simp only [callF, ed, er] at o; exact ⟨Z, μ, S, ds, rh, r, e, o⟩
      | exv x => simp only [callF, ed, er] at o; exact ⟨Z, μ, S, ds, rh, r, e, o⟩
theorem call_no {C : Calls} {fd : FD} {ds : List D} {S : Hs} (hl : ds.length ≠ fd.np) : callF C fd ds S = .no := by
  have q : ∀ S, runF C fd ds S = .no := fun S => by simp only [runF, if_neg hl]
  unfold callF
  split
  · exact q _
  · rw [q]
theorem call_len {G : List FD} {k f : Nat} {fd : FD} {ds : List D} {S : Hs} (hf : G[f]? = some fd) (h : evF G k f ds S ≠ .no) : ds.length = fd.np := by
  cases k with
  | zero => exact absurd rfl h
  | succ k =>
    simp only [evF, hf] at h
    by_cases e : ds.length = fd.np
    · exact e
    · rw [call_no e] at h; exact absurd rfl h
theorem call_rdF {f n : Nat} {cs : CEs} {σ : St} {H : Hp} {Q : VK} (hn : ∀ ds S, C f ds S ≠ .no → ds.length = n) (h : tE X.kw (evE C (.call f cs)) σ H Q) : tCall (spF X.kw n (C f)) [] (xX X) (tAs X.kw (evEs C cs)) σ H Q := by
  obtain ⟨Z, μ, ρ, S, rh, re, o⟩ := h
  simp only [evE] at o
  refine ⟨Z, μ, ρ, S, rh, re, o.bind fun ds S1 vs μ1 H1 _ l1 rh1 r1 o1 => ?_⟩
  rw [List.append_nil]
  exact ⟨Z, μ1, S1, ds, rh1, r1, hn ds S1 fun e => by rw [e] at o1; exact o1, o1⟩
theorem sE_call {x : Str} {f n k : Nat} {fa : Addr} {fd : FuncData} {ps : List Str} {e : Expr} {es : List Expr} {cs : CEs} {p pos : Pos} (F : FnG X.prog X.w X.K X.mg X.base (CX X.prog X.w) k fa fd ps (spF X.kw n (C f))) (hn : ∀ ds S, C f ds S ≠ .no → ds.length = n) (hr : Room k X.A) (gd : X.A.guards = some []) (hg : Gl X x) (hm : X.mg x = some (.ref fa)) (hk : PySem.W.keepIn X.K (.ref fa) = true) (hb : Binds X.K fd ps [])
    (hdb : (x == ("__debug__" : Str)) = false) (ha : PA X (e :: es) (tAs X.kw (evEs C cs))) (hs : notStar e = true) (hss : es.all notStar = true) : PE X (.Call (.Name x p) (e :: es) [] pos) (tE X.kw (evE C (.call f cs))) :=
  PE_wk (pe_callG F hr gd hg hm hk hb .nil pass_x ha hdb (star_cons hs) (back_any hss)) fun σ H Q h => call_rdF hn h
theorem sE_call0 {x : Str} {f n k : Nat} {fa : Addr} {fd : FuncData} {ps : List Str} {p pos : Pos} (F : FnG X.prog X.w X.K X.mg X.base (CX X.prog X.w) k fa fd ps (spF X.kw n (C f))) (hn : ∀ ds S, C f ds S ≠ .no → ds.length = n) (hr : Room k X.A) (gd : X.A.guards = some []) (hg : Gl X x) (hm : X.mg x = some (.ref fa)) (hk : PySem.W.keepIn X.K (.ref fa) = true) (hb : Binds X.K fd ps [])
    (hdb : (x == ("__debug__" : Str)) = false) : PE X (.Call (.Name x p) [] [] pos) (tE X.kw (evE C (.call f .nil))) := by
  refine PE_wk (pe_callG0 F hr gd hg hm hk hb .nil pass_x hdb) fun σ H Q h => ?_
  obtain ⟨Z, μ, ρ, S, rh, re, o⟩ := h
  simp only [evE, evEs, R.bind_ok] at o
  exact ⟨Z, μ, S, [], rh, .nil, hn [] S fun e => by rw [e] at o; exact o, o⟩
end
/-! ### a def keeps its promise -/
theorem start_rel {K : Kw} {Z : Addr → Prop} {μ : List Addr} {S : Hs} {H : Hp} {ds : List D} {vs : List V} (n : Nat) (r : RelDs K Z μ S H ds vs) : RelE K Z μ S H (ds.map some ++ List.replicate n none) (vs.map some ++ List.replicate n none) := by
  refine ⟨by simp [r.length], fun i d e => ?_⟩
  by_cases hi : i < ds.length
  · rw [List.getElem?_append_left (by simpa using hi), List.getElem?_map] at e
    rw [List.getElem?_append_left (by simp; rw [← r.length]; exact hi), List.getElem?_map]
    have : ∀ {ds : List D} {vs : List V} {i : Nat} {d : D}, RelDs K Z μ S H ds vs → ds[i]? = some d → ∃ v, vs[i]? = some v ∧ RelD K Z μ S H d v := fun {ds vs i d} r e => by
      induction r generalizing i with
      | nil => simp at e
      | cons a b ih =>
        cases i with
        | zero => simp at e; subst e; exact ⟨_, rfl, a⟩
        | succ i => simpa using ih (by simpa using e)
    obtain ⟨d', e1, e2⟩ := Option.map_eq_some_iff.mp e
    cases e2
    obtain ⟨v, e3, rv⟩ := this r e1
    exact ⟨v, by rw [e3]; rfl, rv⟩
  · rw [List.getElem?_append_right (by simpa using hi), List.getElem?_replicate] at e
    split at e <;> cases e
theorem fn_ok {P : Program} {w : World} {K : PySem.W.Frag} {mg : Str → Option Value} {base : Heap} {x qual : Str} {params : Arguments} {body : List Stmt} {scope : Scope} {dvs : List V} {kws : List (Str × V)} {f : Addr} {fdt : FuncData} {ps ns : List Str} {k : Nat} {C : Calls} {fd : FD}
    (F : FunD K x qual params body scope dvs kws f fdt) (Sc : FnScope ns ps scope) (hp : ps.length = fd.np) (hns : ns.length = fd.np + fd.nl)
    (hbody : ∀ (cdv : Value) (A : Around) (outer : List Env) (s : Shared) (H : Hp) (E : XK), Room k (A.deeper (envOfC qual scope s.heap.objs.size f cdv)) → A.guards = some [] → (∃ oc od osl fd', K.lookup f = some ⟨oc, od, .func fd', osl⟩ ∧ fd'.code = cdv ∧ PySem.W.codeIn K cdv qual = true) →
      PSs (cxOf (CX P w) P w K mg base ns qual scope f cdv A outer s H E) body (tF (cxOf (CX P w) P w K mg base ns qual scope f cdv A outer s H E).kw (evSs C fd.body))) : FnG P w K mg base (CX P w) (k + 1) f fdt ps (spF ⟨K, w, mg⟩ fd.np (callF C fd)) := by
  refine ⟨fun vs H Q E h => ?_, fun A outer s H args us vs Q E hr gd e0 hb r h => ?_⟩
  · obtain ⟨Z, μ, S, ds, _, r, e, _⟩ := h
    rw [← r.length, e, hp]
  · obtain ⟨oc, od, dV, kV, doc, pm, an, cdv, ct, osl, rfl, lk, hcd, _, _⟩ := F.ex
    obtain ⟨Z, μ, S, ds, rh, r0, e, o⟩ := sp_call h
    simp only [runF, e, if_true] at o
    have hl : vs.length = fd.np := by rw [← r0.length, e]
    have rs : RelE ⟨K, w, mg⟩ Z μ S H (ds.map some ++ List.replicate fd.nl none) (start ns vs) := by
      unfold start
      rw [hl, hns, Nat.add_sub_cancel_left]
      exact start_rel fd.nl r0
    have hq : tF (cxOf (CX P w) P w K mg base ns qual scope f cdv A outer s H E).kw (evSs C fd.body) { nx := fun _ H' => Q .non H', rt := Q } (start ns vs) H := by
      refine ⟨Z, μ, ds.map some ++ List.replicate fd.nl none, S, rh, rs, ?_⟩
      cases ec : evSs C fd.body (ds.map some ++ List.replicate fd.nl none) S with
      | no => rw [ec] at o; exact o
      | ex y h' =>
        rw [ec] at o
        exact fun cls d μ' H' l' rh' rx => x_takes (takes_of rfl rfl rfl rfl) (o cls d μ' H' l' rh' rx)
      | ok fl S2 =>
        rw [ec] at o
        simp only [R.bind_ok] at o
        cases fl with
        | nx ρ3 => exact fun σ3 μ3 H3 l3 rh3 re3 => o _ μ3 H3 l3 rh3 Rp.non
        | rt d => exact fun v μ3 H3 l3 rh3 r3 => o v μ3 H3 l3 rh3 r3
        | bk ρ3 => exact o.elim
        | ct ρ3 => exact o.elim
    -- the call is entered
    have keepB : ∀ b o, base.get? b = some o → s.heap.get? b = some o := fun b o e => (e0.bs b o e).1
    have KX : K.In s.heap := e0.mod.kin.keeps keepB
    refine codeAny_call_function hr.depth (KX _ _ lk) rfl Sc.co Sc.gen rfl (PySem.W.codeRec_of KX hcd) (hb _ _ _ _ ?_)
    refine wpAny_newFunctionEnv_cells Sc.kind (fun y hy => ?_) fun env he s1 x => ?_
    · obtain ⟨n, v⟩ := y
      exact (Sc.par n (List.of_mem_zip hy).1).imp (fun q => q) fun q => ⟨q, PySem.W.cellsFrom_some _ _ _ (.inl q)⟩
    · subst he
      refine ⟨(e0.mod.nolimit.keeps keepB).keeps x.toInCall.keep, codeAny_func ?_⟩
      have I := inv_start (CX := CX P w) (E := E) Sc hr.hd e0 (hl.trans hp.symm) r x
      refine wpAny_mono ((hbody cdv A outer s H E (hr.deeper _) gd ⟨_, _, _, _, lk, rfl, hcd⟩).run [] s1 (start ns vs) H _ I hq) (fun fl s' hs => ?_) fun e s' hs => hs
      cases fl with
      | ret u =>
        obtain ⟨v, σ', H', J, rv, q⟩ := hs
        exact ⟨v, H', J.os, J.bare, J.base, J.hok, rv, q⟩
      | next =>
        obtain ⟨σ', H', J, q⟩ := hs
        exact ⟨V.non, H', J.os, J.bare, J.base, J.hok, rfl, q⟩
      | brk => exact hs.elim fun _ z => z.elim fun _ z => z.2.elim
      | cont => exact hs.elim fun _ z => z.elim fun _ z => z.2.elim
end L2.LC

/-! LC: dict displays, d[k] = v. -/
namespace L2.LC
open PySem PySem.Spec PyProof.Rows
mutual
theorem Rp.tr {K : PySem.W.Frag} {H H' : Hp} {L L' : Addr → Prop} (hf : ∀ a u, H a = some u → noTbl u → ¬ L a → H' a = some u ∧ ¬ L' a) : ∀ {v : V} {p : PyData}, Rp K H L v p → Rp K H' L' v p
  | _, _, .non => .non
  | _, _, .bl b => .bl b
  | _, _, .int i => .int i
  | _, _, .str x => .str x
  | _, _, .lst h z r => .lst (fx_tr hf trivial h) z (RpAll.tr hf r)
  | _, _, .tup h z r => .tup (h.elim (fun h => .inl (fx_tr hf trivial h)) .inr) z (RpAll.tr hf r)
theorem RpAll.tr {K : PySem.W.Frag} {H H' : Hp} {L L' : Addr → Prop} (hf : ∀ a u, H a = some u → noTbl u → ¬ L a → H' a = some u ∧ ¬ L' a) : ∀ {vs : List V} {ps : List PyData}, RpAll K H L vs ps → RpAll K H' L' vs ps
  | _, _, .nil => .nil
  | _, _, .cons a b => .cons (Rp.tr hf a) (RpAll.tr hf b)
theorem fx_tr {H H' : Hp} {L L' : Addr → Prop} {a : Addr} {u : HO} (hf : ∀ a u, H a = some u → noTbl u → ¬ L a → H' a = some u ∧ ¬ L' a) (nt : noTbl u) (h : Rd H a u ∧ ¬ L a) : Rd H' a u ∧ ¬ L' a := by
  rcases h with ⟨h | ⟨o, h⟩, n⟩
  · exact ⟨.inl (hf a _ h nt n).1, (hf a _ h nt n).2⟩
  · exact ⟨.inr ⟨o, (hf a _ h trivial n).1⟩, (hf a _ h trivial n).2⟩
end
theorem RelD.tr {K : Kw} {Z Z' : Addr → Prop} {μ μ' : List Addr} {S S' : Hs} {H H' : Hp} (hf : ∀ a u, H a = some u → noTbl u → ¬ Lv Z μ S a → H' a = some u ∧ ¬ Lv Z' μ' S' a) (hm : ∀ (n : Nat) a, μ[n]? = some a → μ'[n]? = some a) {d : D} {v : V} (r : RelD K Z μ S H d v) : RelD K Z' μ' S' H' d v := by
  cases d with
  | dat p => exact Rp.tr hf r
  | ref n => obtain ⟨a, e, q⟩ := r; exact ⟨a, e, hm n a q⟩
  | scr ns => obtain ⟨a, e, z, q⟩ := r; exact ⟨a, e, z, q.elim (fun q => .inl (fx_tr hf trivial q)) .inr⟩
  | dct kvs => exact RelD.dctMono r (fun v p y => Rp.tr hf y) fun a u n e nt => hf a u e nt n
  | exv x => exact RelD.exvMono r (fun v p y => Rp.tr hf y) fun a u n e nt => hf a u e nt n
/-- a hidden new object -/
theorem RelH.hideNew {K : Kw} {Z : Addr → Prop} {μ : List Addr} {S : Hs} {H : Hp} {D : Addr} {o : HO} (rh : RelH K Z μ S H) (hD : H D = none) : RelH K (fun a => Z a ∨ a = D) μ S (upd H D o) := by
  have r := rh.fresh hD o
  refine ⟨rh.tb.mono fun a u e n => ⟨by rw [upd_ne (ne_of_none e hD)]; exact e, fun y => ?_⟩, fun a ha => ?_, r.len, r.nd, r.tr, fun n u a h1 h2 => ?_⟩
  · rcases y with y | y | rfl
    · exact n (.inl y)
    · exact n (.inr y)
    · rw [hD] at e; cases e
  · rcases ha with z | rfl
    · exact r.zt a z
    · exact ⟨⟨_, upd_same⟩, rh.notin hD⟩
  · exact (rh.ob n u a h1 h2).mono (fun w h3 => by rw [upd_ne (ne_of_none h3 hD)]; exact h3) fun d v y => RelD.hide (later_fresh hD _) (fun a ha hn => by rcases ha with z | rfl; exact absurd z hn; exact hD) y
theorem RelE.hideNew {K : Kw} {Z : Addr → Prop} {μ : List Addr} {S : Hs} {H : Hp} {D : Addr} {o : HO} {ρ : En} {σ : St} (re : RelE K Z μ S H ρ σ) (hD : H D = none) : RelE K (fun a => Z a ∨ a = D) μ S (upd H D o) ρ σ :=
  re.hide (later_fresh hD _) fun a ha hn => by rcases ha with z | rfl; exact absurd z hn; exact hD
/-- the hidden object becomes a place of the store -/
theorem adopt_tr {Z : Addr → Prop} {μ : List Addr} {S : Hs} {H : Hp} {p : Addr} {o : Ob} {u : HO} (hl : μ.length = S.length) : ∀ a w, H a = some w → ¬ Lv (fun a => Z a ∨ a = p) μ S a → upd H p u a = some w ∧ ¬ Lv Z (μ ++ [p]) (S ++ [o]) a := fun a w e n => by
  have ne : a ≠ p := fun z => n (.inr (.inr z))
  refine ⟨by rw [upd_ne ne]; exact e, fun z => ?_⟩
  rcases z with z | z
  · rcases live_app hl z with y | y
    · exact n (.inl y)
    · exact ne y
  · exact n (.inr (.inl z))
theorem at_app {μ : List Addr} {p : Addr} : ∀ (n : Nat) a, μ[n]? = some a → (μ ++ [p])[n]? = some a := fun n a h => by
  rw [List.getElem?_append_left (List.getElem?_eq_some_iff.mp h).1]
  exact h
theorem RelD.adopt {K : Kw} {Z : Addr → Prop} {μ : List Addr} {S : Hs} {H : Hp} {p : Addr} {o : Ob} {u : HO} (hl : μ.length = S.length) {d : D} {v : V} (r : RelD K (fun a => Z a ∨ a = p) μ S H d v) : RelD K Z (μ ++ [p]) (S ++ [o]) (upd H p u) d v :=
  r.tr (fun a u e _ n => adopt_tr hl a u e n) at_app
theorem RelH.adopt {K : Kw} {Z : Addr → Prop} {μ : List Addr} {S : Hs} {H : Hp} {p : Addr} {o : Ob} {u : HO} (rh : RelH K (fun a => Z a ∨ a = p) μ S H) (hz : ¬ Z p) (ho : ObR K Z (μ ++ [p]) (S ++ [o]) (upd H p u) o p) : RelH K Z (μ ++ [p]) (S ++ [o]) (upd H p u) := by
  have np := (rh.zt p (.inr rfl)).2
  refine ⟨rh.tb.mono (adopt_tr rh.len), fun a ha => ?_, by simp [rh.len], ?_, fun a ha => ?_, fun n w a h1 h2 => ?_⟩
  · obtain ⟨⟨v, e⟩, n⟩ := rh.zt a (.inl ha)
    have ne : a ≠ p := fun z => hz (z ▸ ha)
    refine ⟨⟨v, by rw [upd_ne ne]; exact e⟩, fun hm => ?_⟩
    rcases List.mem_append.mp hm with z | z
    · exact n z
    · exact ne (by simpa using z)
  · rw [List.nodup_append]
    refine ⟨rh.nd, by simp, fun a ha b hb => ?_⟩
    have e : b = p := by simpa using hb
    subst e
    rintro rfl
    exact np ha
  · rcases List.mem_append.mp ha with z | z
    · obtain ⟨v, e⟩ := rh.tr a z
      have ne : a ≠ p := fun y => np (by rw [← y]; exact z)
      exact ⟨v, by rw [upd_ne ne]; exact e⟩
    · have e : a = p := by simpa using z
      subst e
      exact ⟨u, upd_same⟩
  · by_cases hn : n < μ.length
    · rw [List.getElem?_append_left (by have := rh.len; omega)] at h1
      rw [List.getElem?_append_left hn] at h2
      have ne : a ≠ p := fun y => np (y ▸ List.mem_of_getElem? h2)
      exact (rh.ob n w a h1 h2).mono (fun v e => by rw [upd_ne ne]; exact e) fun d v y => y.adopt rh.len
    · have hl := rh.len
      rw [List.getElem?_append_right (by omega)] at h1 h2
      have e1 : w ∈ [o] := List.mem_of_getElem? h1
      have e2 : a ∈ [p] := List.mem_of_getElem? h2
      have e1' : w = o := by simpa using e1
      have e2' : a = p := by simpa using e2
      subst e1' e2'
      exact ho
theorem later_adopt {K : Kw} {Z : Addr → Prop} {μ μ2 : List Addr} {S S2 : Hs} {H H2 : Hp} {p : Addr} {o : Ob} {u0 u : HO} (hp : H p = none) (l : Later μ S (upd H p u0) μ2 S2 H2) (hl : μ2.length = S2.length) : Later μ S H (μ2 ++ [p]) (S2 ++ [o]) (upd H2 p u) := by
  obtain ⟨t, e⟩ := l.pre
  refine ⟨⟨t ++ [p], by rw [e]; simp⟩, fun a w h nt n => ?_, fun a w h => (st_upd H p u0 a w h).elim fun w' h' => (l.st a w' h').elim fun w2 h2 => st_upd H2 p u a w2 h2⟩
  have ne : a ≠ p := ne_of_none h hp
  have k := l.keep a w (by rw [upd_ne ne]; exact h) nt n
  refine ⟨by rw [upd_ne ne]; exact k.1, fun z => ?_⟩
  rcases live_app hl z with y | y
  · exact k.2 y
  · exact ne y
section
variable {X : Cx} {C : Calls}
abbrev dictObj : Obj := { cls := .type "dict", data := .dict #[] }
theorem sysNe {pins : List (Addr × Obj)} {σ : St} {H : Hp} {s : Shared} (I : Inv X pins σ H s) : (s.heap.objs.size == sysModules) = false := beq_eq_false_iff_ne.mpr (Ne.symm (Nat.ne_of_lt I.big))
/-- {} -/
theorem sE_tb0 {pos : Pos} : PE X (.Dict [] [] pos) (tE X.kw (evE C .tb0)) := by
  refine ⟨fun pins s σ H Q I h => ?_⟩
  obtain ⟨Z, μ, ρ, S, rh, re, o⟩ := h
  simp only [evE] at o
  have hn := I.hok.fresh (Nat.le_refl s.heap.objs.size)
  have e1 : (s.heap.push dictObj).get? s.heap.objs.size = some dictObj := Heap.get?_push_size _ rfl
  refine wpAny_Dict_empty ⟨.ref s.heap.objs.size, _, I.laid (a := s.heap.objs.size) (o := .ext fun h => h.get? s.heap.objs.size = some dictObj) (t' := s.toks) (fun _ _ q => Heap.get?_push_of_some _ q) (Nat.le_refl _) (tabObj_ok e1), rfl, ?_⟩
  refine o _ (μ ++ [s.heap.objs.size]) _ (later_alloc rh hn _ _) (rh.alloc hn ?_) ⟨_, rfl, ?_⟩
  · exact ⟨Nat.zero_le _, sysNe I, dictObj, #[], 0, [], upd_same, ⟨rfl, rfl, rfl⟩, rfl, rfl, List.nodup_nil, .nil⟩
  · rw [List.getElem?_append_right (by rw [rh.len]; exact Nat.le_refl _), rh.len]
    simp
/-- {k: v} -/
theorem sE_tb1 {k : Nat} (hr : Room k X.A) {ke ve : Expr} {ck cv : CE} {pos : Pos} (hk : PE X ke (tE X.kw (evE C ck))) (hv : PE X ve (tE X.kw (evE C cv))) : PE X (.Dict [some ke] [ve] pos) (tE X.kw (evE C (.tb1 ck cv))) := by
  refine ⟨fun pins s σ H Q I h => ?_⟩
  obtain ⟨Z, μ, ρ, S, rh, re, o⟩ := h
  simp only [evE] at o
  have un := hr.un
  have room : (nestedKind X.prog X.w).room X.A := by show X.A.units + 8 < cLine; omega
  generalize hp : s.heap.objs.size = p
  have hn : H p = none := I.hok.fresh (Nat.le_of_eq hp)
  have sn : (p == sysModules) = false := hp ▸ sysNe I
  have e1 : (s.heap.push dictObj).get? p = some dictObj := hp ▸ Heap.get?_push_size _ rfl
  have I1 := I.laid (a := p) (o := .ext fun h => h.get? p = some dictObj) (h' := s.heap.push dictObj) (t' := s.toks) (fun _ _ q => Heap.get?_push_of_some _ q) (Nat.le_of_eq hp) (tabObj_ok e1)
  have rhD : RelH X.kw (fun a => Z a ∨ a = p) μ S (upd H p (.ext fun h => h.get? p = some dictObj)) := rh.hideNew hn
  have reD : RelE X.kw (fun a => Z a ∨ a = p) μ S (upd H p (.ext fun h => h.get? p = some dictObj)) ρ σ := re.hideNew hn
  have nlp : ¬ Live μ S p := fun z => rh.notlive hn (.inl z)
  have nz : ¬ Z p := fun z => rh.notlive hn (.inr z)
  rw [arm_eval_Dict, zip_pairTrees [some ke] [ve] X.env pos rfl rfl, dictDisplay_pairs (pairTrees [some ke] [ve] X.env pos) (by simp [pairTrees]) (by simp [pairTrees])]
  refine wpAny_bind (wpAny_standAt (wpAny_bind (wpAny_subDictH (knd := nestedKind X.prog X.w) room (by simp [pairTrees]) ?_)))
  rw [hp]
  have key : wpAny (model X.prog X.w) X.A (evalPairs (pairTrees [some ke] [ve] X.env pos)) (fun vs s1 => ∃ u1 u2 b q y v1 v2 S2 μ2 H2, vs = [(u1, u2)] ∧ u1 = .ref b ∧ Inv X pins σ H2 s1 ∧ keyOk q = true ∧ RelV v2 u2 ∧ Later μ S (upd H p (.ext fun h => h.get? p = some dictObj)) μ2 S2 H2 ∧ RelH X.kw (fun a => Z a ∨ a = p) μ2 S2 H2 ∧
      RelD X.kw (fun a => Z a ∨ a = p) μ2 S2 H2 (.dat q) v1 ∧ v1 = .ref b ∧ (nestedKind X.prog X.w).is s1.heap (nk q) b ∧ RelD X.kw (fun a => Z a ∨ a = p) μ2 S2 H2 y v2 ∧ Out X.kw Z (RelD X.kw Z) μ S H (.ok (.ref S2.length) (S2 ++ [.tab [(q, y)]])) Q) X.xe { s with heap := s.heap.push dictObj } := by
    refine pairTrees_cons_walk ?_
    have t1 : tE X.kw (evE C ck) σ (upd H p (.ext fun h => h.get? p = some dictObj)) fun v1 H1 => ∃ x S1 μ1, evE C ck ρ S = .ok x S1 ∧ Later μ S (upd H p (.ext fun h => h.get? p = some dictObj)) μ1 S1 H1 ∧ RelH X.kw (fun a => Z a ∨ a = p) μ1 S1 H1 ∧ RelD X.kw (fun a => Z a ∨ a = p) μ1 S1 H1 x v1 := by
      refine ⟨_, μ, ρ, S, rhD, reD, ?_⟩
      cases e : evE C ck ρ S with
      | no => rw [e] at o; exact o
      | ex x h' =>
        rw [e] at o
        exact fun cls d μ' H' l rh' rx => o cls d μ' H' ((later_fresh hn _).trans l) (rh'.unhide fun a z => .inl z) (rx.mono (fun a u n e _ => ⟨e, fun z => n (z.elim .inl fun y => .inr (.inl y))⟩) fun v p q => Rp.unhide (fun a z => z.elim .inl fun y => .inr (.inl y)) q)
      | ok x S1 => exact fun v1 μ1 H1 l1 rh1 r1 => ⟨x, S1, μ1, rfl, l1, rh1, r1⟩
    refine thn (hk.run pins _ σ _ _ I1 t1) fun u1 s1 ⟨v1, H1, I2, rv1, x, S1, μ1, ex, l1, rh1, r1⟩ => ?_
    rw [ex] at o
    simp only [R.bind_ok] at o
    have t2 : tE X.kw (evE C cv) σ H1 fun v2 H2 => ∃ y S2 μ2, evE C cv ρ S1 = .ok y S2 ∧ Later μ1 S1 H1 μ2 S2 H2 ∧ RelH X.kw (fun a => Z a ∨ a = p) μ2 S2 H2 ∧ RelD X.kw (fun a => Z a ∨ a = p) μ2 S2 H2 y v2 := by
      refine ⟨_, μ1, ρ, S1, rh1, reD.later l1, ?_⟩
      cases e : evE C cv ρ S1 with
      | no => rw [e] at o; exact o
      | ex x h' =>
        rw [e] at o
        exact fun cls d μ' H' l rh' rx => o cls d μ' H' (((later_fresh hn _).trans l1).trans l) (rh'.unhide fun a z => .inl z) (rx.mono (fun a u n e _ => ⟨e, fun z => n (z.elim .inl fun y => .inr (.inl y))⟩) fun v p q => Rp.unhide (fun a z => z.elim .inl fun y => .inr (.inl y)) q)
      | ok y S2 => exact fun v2 μ2 H2 l2 rh2 r2 => ⟨y, S2, μ2, rfl, l2, rh2, r2⟩
    refine thn (hv.run pins s1 σ H1 _ I2 t2) fun u2 s2 ⟨v2, H2, I3, rv2, y, S2, μ2, ey, l2, rh2, r2⟩ => pairTrees_nil_walk ?_
    rw [ey] at o
    simp only [R.bind_ok] at o
    cases x with
    | dat q =>
      simp only at o
      split at o
      · rename_i hq
        obtain ⟨b, e2, e3, hkey⟩ := key_at I3 (r1.later l2) rv1 hq
        exact ⟨u1, u2, b, q, y, v1, v2, S2, μ2, H2, rfl, e2, I3, hq, rv2, l1.trans l2, rh2, r1.later l2, e3, hkey, r2, o⟩
      · exact o.elim
    | _ => exact o.elim
  refine thn key fun vs s1 ⟨u1, u2, b, q, y, v1, v2, S2, μ2, H2, e1, e2, I3, hq, rv2, l, rh2, r1, e3, hkey, r2, oo⟩ => ?_
  subst e1 e2 e3
  have hpH : H2 p = some (.ext fun h => h.get? p = some dictObj) := (l.keep p _ upd_same trivial nlp).1
  have hobj : s1.heap.get? p = some dictObj := (I3.hok p _ hpH).1
  refine ⟨[(nk q, b, u2)], ⟨rfl, rfl, hkey, trivial⟩, ⟨dictObj, #[], 0, hobj, ⟨rfl, rfl, rfl⟩, rfl, rfl, fun x hx => (nomatch hx), List.nodup_nil⟩, fun h' tk dd hs => wpAny_pure ?_⟩
  have dd1 : h'.DictOfH (nestedKind X.prog X.w) p [(nk q, b, u2)] := dd
  obtain ⟨ob, eo, mk⟩ := TabAt.of (δ := D) (kvs := [(q, y)]) dd1 (by show 1 ≤ sizeLine; decide) sn
  have I4 : Inv X pins σ (upd H2 p (.ext fun h => h.get? p = some ob)) { s1 with heap := h', toks := tk } := d_write (t' := tk) I3 (by rw [hpH]; trivial) hs ⟨ob, eo⟩ (tabObj_ok eo)
  refine ⟨.ref p, _, I4, rfl, oo _ (μ2 ++ [p]) _ (later_adopt (K := X.kw) (Z := Z) hn l rh2.len) (rh2.adopt nz ?_) ⟨p, rfl, ?_⟩⟩
  · refine mk upd_same (.cons ⟨hq, rfl, ?_, v2, rv2, r2.adopt rh2.len⟩ .nil)
    exact RelD.adopt (d := .dat q) rh2.len r1
  · rw [List.getElem?_append_right (by rw [rh2.len]; exact Nat.le_refl _), rh2.len]
    simp
/-- d[k] = v -/
theorem dic_put {K : Kw} {Z : Addr → Prop} {μ : List Addr} {S : Hs} {H : Hp} {x : Str} {d : D} {v : V} (hd : RelD K Z μ S H d v) {kvs : List (Str × D)} {qs : List (Key × V)} (r : Paired (fun (p : Str × D) (q : Key × V) => q.1 = .inr p.1 ∧ RelD K Z μ S H p.2 q.2) kvs qs) :
    Paired (fun (p : Str × D) (q : Key × V) => q.1 = .inr p.1 ∧ RelD K Z μ S H p.2 q.2) (dicPut kvs x d) (putK qs (.inr x) v) := by
  have e : (qs.any fun kv => decide (kv.1 = .inr x)) = (kvs.lookup x).isSome := by
    rw [valV_any]
    rcases dic_at (x := x) r with ⟨h1, h2⟩ | ⟨d', w, h1, h2, _⟩ <;> rw [h1, h2] <;> rfl
  unfold dicPut putK
  rw [e]
  split
  · have : ∀ {kvs : List (Str × D)} {qs : List (Key × V)}, Paired (fun (p : Str × D) (q : Key × V) => q.1 = .inr p.1 ∧ RelD K Z μ S H p.2 q.2) kvs qs → Paired (fun (p : Str × D) (q : Key × V) => q.1 = .inr p.1 ∧ RelD K Z μ S H p.2 q.2) (kvs.map fun q => if q.1 = x then (q.1, d) else q) (qs.map fun kv => if kv.1 = .inr x then (kv.1, v) else kv) := fun {kvs qs} r => by
      induction r with
      | nil => exact .nil
      | @cons p q ps qs k t ih =>
        refine .cons ?_ ih
        obtain ⟨p1, p2⟩ := p
        obtain ⟨q1, q2⟩ := q
        simp only at k
        obtain ⟨rfl, k2⟩ := k
        by_cases h : p1 = x
        · subst h
          simp only [if_true]
          exact ⟨trivial, hd⟩
        · have h' : ¬ (Sum.inr p1 : Key) = Sum.inr x := fun e => h (Sum.inr.inj e)
          simp only [if_neg h, if_neg h']
          exact ⟨trivial, k2⟩
    exact this r
  · exact Paired.snoc r ⟨rfl, hd⟩
theorem sS_put {k : Nat} (hr : Room k X.A) {o i value : Expr} {cd ci cv : CE} {pos pos' : Pos} (ho : PE X o (tE X.kw (evE C cd))) (hi : PE X i (tE X.kw (evE C ci))) (hv : PE X value (tE X.kw (evE C cv))) (hs : swapsWith value (some (.Subscript o i pos')) pos.line X.env = pure false) :
    PS X (.Assign [.Subscript o i pos'] value pos) (tF X.kw (evS C (.put cd ci cv))) := by
  refine ⟨fun pins s σ H E I h => ?_⟩
  obtain ⟨Z, μ, ρ, S, rh, re, oo⟩ := h
  simp only [evS] at oo
  have un := hr.un
  have room : (nestedKind X.prog X.w).room X.A.in1 := by show X.A.units + 1 + 8 < cLine; omega
  have t : tE X.kw (evE C cv) σ H fun v H1 => tE X.kw (evE C cd) σ H1 fun x H2 => tE X.kw (evE C ci) σ H2 fun y H3 => ∃ dz dx dy S3 μ3, RelH X.kw Z μ3 S3 H3 ∧ RelE X.kw Z μ3 S3 H3 ρ σ ∧ RelD X.kw Z μ3 S3 H3 dz v ∧ RelD X.kw Z μ3 S3 H3 dx x ∧ RelD X.kw Z μ3 S3 H3 dy y ∧
      OutF X.kw Z μ3 S3 H3 (match putD S3 dx dy dz with | some h4 => .ok (.nx ρ) h4 | none => .no) E := by
    refine ⟨Z, μ, ρ, S, rh, re, oo.bind fun dz S1 v μ1 H1 _ l1 rh1 r1 o1 => ?_⟩
    refine ⟨Z, μ1, ρ, S1, rh1, re.later l1, o1.bind fun dx S2 x μ2 H2 _ l2 rh2 r2 o2 => ?_⟩
    refine ⟨Z, μ2, ρ, S2, rh2, (re.later l1).later l2, o2.bind fun dy S3 y μ3 H3 _ l3 rh3 r3 o3 => ?_⟩
    exact ⟨dz, dx, dy, S3, μ3, rh3, ((re.later l1).later l2).later l3, (r1.later l2).later l3, r2.later l3, r3, o3⟩
  refine wpAny_Assign_Subscript (thn (hv.run pins s σ H _ I t) fun r s1 ⟨v, H1, I1, rv, q1⟩ => thn (ho.run pins s1 σ H1 _ I1 q1) fun u s2 ⟨x, H2, I2, rx, q2⟩ => thn (hi.run pins s2 σ H2 _ I2 q2) fun iv s3 ⟨y, H3, I3, ry, dz, dx, dy, S3, μ3, rh3, re3, r1, r2, r3, o3⟩ => ?_) hs
  cases ep : putD S3 dx dy dz with
  | none => rw [ep] at o3; exact o3.elim
  | some S4 =>
    rw [ep] at o3
    simp only at o3
    cases dx with
    | ref n =>
      cases dy with
      | dat p =>
        obtain ⟨a, rfl, ha⟩ := r2
        cases rx
        simp only [putD] at ep
        have wr : ∀ {ob ob' : Ob} {w : HO}, S3[n]? = some ob → ob.live = true → ob'.live = true → ObR X.kw Z μ3 (S3.set n ob') (upd H3 a w) ob' a → ∀ s', Inv X pins σ (upd H3 a w) s' → S4 = S3.set n ob' → ∃ σ' H', Inv X pins σ' H' s' ∧ E.nx σ' H' := fun {ob ob' w} e1 e2 e3 e4 s' J e5 => by
          obtain ⟨l, rh4⟩ := rh3.write e1 e2 e3 ha e4
          subst e5
          exact ⟨σ, _, J, o3 σ μ3 _ l rh4 (re3.later l)⟩
        have lt : ∀ {ob ob' : Ob} {w : HO}, S3[n]? = some ob → ob.live = true → Later μ3 S3 H3 μ3 (S3.set n ob') (upd H3 a w) := fun {ob ob' w} hx hl => by
          have lv : Live μ3 S3 a := ⟨n, _, ha, hx, hl⟩
          refine ⟨⟨[], by simp⟩, fun b u h _ nl => ⟨by rw [upd_ne (show b ≠ a from fun e => nl (by rw [e]; exact lv))]; exact h, fun ⟨k, u', q1, q2, q3⟩ => ?_⟩, st_upd _ _ _⟩
          by_cases e : k = n
          · subst e
            rw [ha] at q1
            cases q1
            exact nl lv
          · rw [List.getElem?_set_ne (Ne.symm e)] at q2
            exact nl ⟨k, u', q1, q2, q3⟩
        split at ep
        · rename_i kvs hn
          split at ep
          · rename_i hk
            have e4 := Option.some.inj ep
            have tb : TabAt X.kw H3 (Lv Z μ3 S3) (RelD X.kw Z μ3 S3 H3) kvs a := rh3.ob n _ a hn ha
            obtain ⟨z, m, xs, dd, pr⟩ := tb.dict I3
            obtain ⟨b, rfl, rfl, hkey⟩ := key_at I3 r3 ry hk.1
            refine wpAny_setItem_heap (hsz := by rw [← Paired.length pr]; exact z) room hkey dd fun h' dd' hsb => ?_
            obtain ⟨ob, eo, mk⟩ := TabAt.of (δ := D) (kvs := tabPut kvs p dz) dd' (by have := tabPut_length kvs p dz; omega) m
            obtain ⟨_, _, o0, _, _, _, hH, _⟩ := id tb
            have J := d_write (t' := s3.toks + (nestedKind X.prog X.w).draws (nk p)) (ob := .ext fun h => h.get? a = some ob) I3 (by rw [hH]; trivial) hsb ⟨ob, eo⟩ (tabObj_ok eo)
            have l := lt (ob' := .tab (tabPut kvs p dz)) (w := .ext fun h => h.get? a = some ob) hn rfl
            refine wr (ob' := .tab (tabPut kvs p dz)) (w := .ext fun h => h.get? a = some ob) hn rfl rfl (mk upd_same ?_) _ J e4.symm
            refine tab_put hk.1 (Rp.later l r3) rv (r1.later l) (Paired.mapP pr fun q x ⟨k1, k2, k3, w, k4, k5⟩ => ⟨k1, k2, Rp.later l k3, w, k4, k5.later l⟩)
          · cases ep
        · rename_i kvs hn
          cases p with
          | str x =>
          simp only at ep
          split at ep
          · rename_i hl
            have e4 := Option.some.inj ep
            obtain ⟨qs, h1, h2, h3⟩ := rh3.ob n _ a hn ha
            cases r3
            have g : DPut H3 a (kV (.inr x)) v (upd H3 a (.dK (putK qs (.inr x) v))) := DPut.k h1 (by rw [← Paired.length h3]; exact hl)
            refine d_setItem (by omega) I3 g ry rv fun s4 J => ?_
            have l := lt (ob' := .dic (dicPut kvs x dz)) (w := .dK (putK qs (.inr x) v)) hn rfl
            refine wr (ob' := .dic (dicPut kvs x dz)) (w := .dK (putK qs (.inr x) v)) hn rfl rfl ⟨_, upd_same, ?_, dic_put (r1.later l) (Paired.mapP h3 fun p q y => ⟨y.1, y.2.later l⟩)⟩ _ J e4.symm
            unfold dicPut
            split <;> simp <;> omega
          · cases ep
          | _ => cases ep
        · cases ep
      | _ => simp [putD] at ep
    | _ => simp [putD] at ep
/-! ### {"x": e, ..} -/
theorem merge_new : ∀ (more acc : List (Key × V)), (more.map (·.1)).Nodup → (∀ q ∈ more, valV acc q.1 = none) → mergeK acc more = acc ++ more
  | [], acc, _, _ => by simp [mergeK]
  | q :: more, acc, hn, hv => by
    simp only [List.map_cons, List.nodup_cons] at hn
    have e1 : putK acc q.1 q.2 = acc ++ [q] := putK_new q.2 (hv q (List.mem_cons_self ..))
    show mergeK (putK acc q.1 q.2) more = _
    rw [e1, merge_new more (acc ++ [q]) hn.2 fun r hr => ?_]
    · simp
    · have ne : ¬ r.1 = q.1 := fun e => hn.1 (by rw [← e]; exact List.mem_map.mpr ⟨r, hr, rfl⟩)
      have := valV_snoc q.1 r.1 q.2 acc (hv q (List.mem_cons_self ..))
      rw [this, if_neg ne]
      exact hv r (List.mem_cons_of_mem _ hr)
def trsOf (X : Cx) (C : Calls) : List Str → CEs → List (TE × TE)
  | k :: ks, .cons c cs => (tC (.str k), tE X.kw (evE C c)) :: trsOf X C ks cs
  | _, _ => []
theorem pairs_rd {Z : Addr → Prop} {ρ : En} {σ : St} : ∀ (cs : CEs) (ks : List Str) {μ : List Addr} {S : Hs} {H : Hp} {ds : List D} {S2 : Hs} {Q : List (V × V) → Hp → Prop}, RelH X.kw Z μ S H → RelE X.kw Z μ S H ρ σ → evEs C cs ρ S = .ok ds S2 → ds.length = ks.length →
    (∀ vs μ2 H2, Later μ S H μ2 S2 H2 → RelH X.kw Z μ2 S2 H2 → RelDs X.kw Z μ2 S2 H2 ds vs → Q ((ks.zip vs).map fun q => (V.str q.1, q.2)) H2) → tPairs (trsOf X C ks cs) σ H Q
  | .nil, ks, μ, S, H, ds, S2, Q, rh, re, e, hl, q => by
    simp only [evEs] at e
    cases e
    have e2 : trsOf X C ks .nil = [] := by cases ks <;> rfl
    rw [e2]
    have z := q [] μ H (Later.refl _ _ _) rh .nil
    rw [List.zip_nil_right, List.map_nil] at z
    exact z
  | .cons c cs, [], μ, S, H, ds, S2, Q, rh, re, e, hl, q => by
    exfalso
    simp only [evEs] at e
    cases e1 : evE C c ρ S with
    | no => rw [e1] at e; cases e
    | ex x h => rw [e1] at e; cases e
    | ok d S1 =>
      rw [e1] at e
      simp only [R.bind_ok] at e
      cases e2 : evEs C cs ρ S1 with
      | no => rw [e2] at e; cases e
      | ex x h => rw [e2] at e; cases e
      | ok ds' S3 => rw [e2] at e; simp only [R.bind_ok] at e; cases e; simp at hl
  | .cons c cs, k :: ks, μ, S, H, ds, S2, Q, rh, re, e, hl, q => by
    simp only [evEs] at e
    cases e1 : evE C c ρ S with
    | no => rw [e1] at e; cases e
    | ex x h => rw [e1] at e; cases e
    | ok d S1 =>
      rw [e1] at e
      simp only [R.bind_ok] at e
      cases e2 : evEs C cs ρ S1 with
      | no => rw [e2] at e; cases e
      | ex x h => rw [e2] at e; cases e
      | ok ds' S3 =>
        rw [e2] at e
        simp only [R.bind_ok] at e
        cases e
        show tE X.kw (evE C c) σ H fun y H2 => tPairs (trsOf X C ks cs) σ H2 fun ps H3 => Q ((V.str k, y) :: ps) H3
        refine ⟨Z, μ, ρ, S, rh, re, ?_⟩
        rw [e1]
        intro v μ1 H1 l1 rh1 r1
        refine pairs_rd cs ks rh1 (re.later l1) e2 (by simpa using hl) fun vs μ2 H2 l2 rh2 r2 => ?_
        exact q (v :: vs) μ2 H2 (l1.trans l2) rh2 (.cons (r1.later l2) r2)
theorem dic_of {K : Kw} {Z : Addr → Prop} {μ : List Addr} {S : Hs} {H : Hp} : ∀ {ks : List Str} {ds : List D} {vs : List V}, RelDs K Z μ S H ds vs → ds.length = ks.length →
    Paired (fun (p : Str × D) (q : Key × V) => q.1 = .inr p.1 ∧ RelD K Z μ S H p.2 q.2) (ks.zip ds) ((ks.zip vs).map fun q => ((Sum.inr q.1 : Key), q.2))
  | [], _, _, .nil, _ => .nil
  | [], _, _, .cons _ _, h => by simp at h
  | k :: ks, _, _, .nil, h => by simp at h
  | k :: ks, _, _, .cons a b, h => .cons ⟨rfl, a⟩ (dic_of b (by simpa using h))
theorem sE_dsp {ks : List Str} {cs : CEs} {keys : List (Option Expr)} {values : List Expr} {pos : Pos} (h : PPs X pos keys values (trsOf X C ks cs)) (hall : keys.all (·.isSome) = true) (hl : keys.length = values.length) (h0 : keys ≠ []) (h15 : keys.length ≤ 15) (hk : ks.length = keys.length) (hn : ks.Nodup) :
    PE X (.Dict keys values pos) (tE X.kw (evE C (.dsp ks cs))) := by
  refine PE_wk (pe_disp h hall hl h0 h15) fun σ H Q ⟨Z, μ, ρ, S, rh, re, o⟩ => ?_
  simp only [evE] at o
  intro p hp
  have nlp : ¬ Live μ S p := fun z => rh.notlive hp (.inl z)
  have nz : ¬ Z p := fun z => rh.notlive hp (.inr z)
  cases e : evEs C cs ρ S with
  | no => rw [e] at o; exact o.elim
  | ex x h' => rw [e] at o; exact o.elim
  | ok ds S1 =>
    rw [e] at o
    simp only [R.noX_ok, R.bind_ok] at o
    split at o
    · rename_i hd
      refine pairs_rd cs ks (rh.hideNew hp) (re.hideNew hp) e hd fun vs μ2 H2 l rh2 r2 => ?_
      have hpH : H2 p = some (.dK []) := (l.keep p _ upd_same trivial nlp).1
      have lv : vs.length = ks.length := by rw [← r2.length, hd]
      refine ⟨hpH, (ks.zip vs).map fun q => ((Sum.inr q.1 : Key), q.2), ?_, ?_, ?_⟩
      · rw [List.map_map]; rfl
      · simp [List.length_zip, lv]; omega
      · have mk : mergeK [] ((ks.zip vs).map fun q => ((Sum.inr q.1 : Key), q.2)) = (ks.zip vs).map fun q => ((Sum.inr q.1 : Key), q.2) := by
          rw [merge_new _ [] ?_ fun q _ => rfl, List.nil_append]
          have : (((ks.zip vs).map fun q => ((Sum.inr q.1 : Key), q.2)).map (·.1)) = ks.map Sum.inr := by
            have e3 : ks.map (Sum.inr : Str → Key) = ((ks.zip vs).map (·.1)).map Sum.inr := by rw [List.map_fst_zip (by omega)]
            rw [e3, List.map_map, List.map_map]
            rfl
          rw [this]
          exact List.Pairwise.map _ (fun a b h e => h (Sum.inr.inj e)) hn
        rw [mk]
        refine o _ (μ2 ++ [p]) _ (later_adopt (K := X.kw) (Z := Z) hp l rh2.len) (rh2.adopt nz ⟨_, upd_same, ?_, ?_⟩) ⟨p, rfl, ?_⟩
        · simp [List.length_zip, hd]
          have : ks.length ≤ 15 := by omega
          have e4 : (15 : Nat) ≤ sizeLine := by decide
          omega
        · exact Paired.mapP (dic_of r2 hd) fun q x y => ⟨y.1, y.2.adopt rh2.len⟩
        · rw [List.getElem?_append_right (by rw [rh2.len]; exact Nat.le_refl _), rh2.len]
          simp
    · exact o.elim
/-! ### a[::-1], pop, new lists that are changed -/
theorem RpAll.rev {K : PySem.W.Frag} {H : Hp} {L : Addr → Prop} : ∀ {vs : List V} {ps : List PyData}, RpAll K H L vs ps → RpAll K H L vs.reverse ps.reverse
  | _, _, .nil => .nil
  | _, _, .cons a b => by
    rw [List.reverse_cons, List.reverse_cons]
    exact (RpAll.rev b).append (.cons a .nil)
theorem sE_rev {e : Expr} {c : CE} {k : Nat} {p1 p2 p3 pos : Pos} (h : PE X e (tE X.kw (evE C c))) : PE X (.Subscript e (.Slice none none (some (.UnaryOp .USub (.Constant (.int 1) k p1) p2)) p3) pos) (tE X.kw (evE C (.rev c))) := by
  refine PE_wk (pe_revL h) fun σ H Q ⟨Z, μ, ρ, S, rh, re, o⟩ => ?_
  simp only [evE] at o
  refine ⟨Z, μ, ρ, S, rh, re, o.bind fun d S1 v μ1 H1 _ l1 rh1 r1 o1 => ?_⟩
  cases er : rd S1 d with
  | none => rw [er] at o1; exact o1.elim
  | some p =>
    rw [er] at o1
    cases p with
    | list ps =>
      simp only at o1
      obtain ⟨a, vs, rfl, h1, h2, h3⟩ := rd_lst rh1 r1 er
      exact ⟨a, vs, rfl, h1, fun p hp => o1 _ μ1 _ (later_fresh hp _) (rh1.fresh hp _) (rp_lst rh1 hp h2.rev (by rw [List.length_reverse]; exact h3))⟩
    | _ => exact o1.elim
theorem paired_get {α β : Type} {F : α → β → Prop} : ∀ {l₁ : List α} {l₂ : List β} {k : Nat} {x : α}, Paired F l₁ l₂ → l₁[k]? = some x → ∃ y, l₂[k]? = some y ∧ F x y
  | _, _, k, x, .nil, h => by simp at h
  | _, _, 0, x, .cons r t, h => by simp at h; subst h; exact ⟨_, rfl, r⟩
  | _, _, k + 1, x, .cons r t, h => by simpa using paired_get t (by simpa using h)
theorem paired_erase {α β : Type} {F : α → β → Prop} : ∀ {l₁ : List α} {l₂ : List β} (k : Nat), Paired F l₁ l₂ → Paired F (l₁.eraseIdx k) (l₂.eraseIdx k)
  | _, _, k, .nil => .nil
  | _, _, 0, .cons r t => t
  | _, _, k + 1, .cons r t => .cons r (paired_erase k t)
theorem reld_dats {K : Kw} {Z : Addr → Prop} {μ : List Addr} {S : Hs} {H : Hp} : ∀ {qs : List PyData} {ws : List V}, RpAll K.fr H (Lv Z μ S) ws qs → RelDs K Z μ S H (qs.map .dat) ws
  | [], _, .nil => .nil
  | _ :: _, _, .cons a b => .cons a (reld_dats b)
/-- what pop does to the heap -/
theorem pop_rd {Z : Addr → Prop} {μ : List Addr} {S : Hs} {H : Hp} {n k : Nat} {i : Option Int} {a : Addr} {xs : List D} {Q : VK} (rh : RelH X.kw Z μ S H) (ha : μ[n]? = some a) (hx : S[n]? = some (.lst xs)) (hi : popIx xs i = some k) (o : Out X.kw Z (RelD X.kw Z) μ S H (popAt n i S) Q) :
    ∃ vs y, H a = some (.lst vs) ∧ vs.length = xs.length ∧ vs[k]? = some y ∧ Q y (upd H a (.lst (vs.eraseIdx k))) := by
  unfold popAt at o
  simp only [hx, hi] at o
  cases hy : xs[k]? with
  | none => rw [hy] at o; exact o.elim
  | some y =>
    rw [hy] at o
    simp only at o
    obtain ⟨vs, h1, h2, h3⟩ := rh.ob n _ a hx ha
    obtain ⟨w, h4, h5⟩ := paired_get h3 hy
    have lv : Live μ S a := ⟨n, _, ha, hx, rfl⟩
    have l : Later μ S H μ (S.set n (.lst (xs.eraseIdx k))) (upd H a (.lst (vs.eraseIdx k))) := by
      refine ⟨⟨[], by simp⟩, fun b u h _ nl => ⟨by rw [upd_ne (show b ≠ a from fun e => nl (by rw [e]; exact lv))]; exact h, fun ⟨j, u', q1, q2, q3⟩ => ?_⟩, st_upd _ _ _⟩
      by_cases e : j = n
      · subst e
        rw [ha] at q1
        cases q1
        exact nl lv
      · rw [List.getElem?_set_ne (Ne.symm e)] at q2
        exact nl ⟨j, u', q1, q2, q3⟩
    have kk := rh.write (o' := .lst (xs.eraseIdx k)) (u := .lst (vs.eraseIdx k)) hx rfl rfl ha ⟨vs.eraseIdx k, upd_same, by have := List.length_eraseIdx_le xs k; omega, RelDs.later l (paired_erase k h3)⟩
    exact ⟨vs, w, h1, (RelDs.length h3).symm, h4, o w μ _ kk.1 kk.2 (h5.later l)⟩
theorem lstAt_ok {S : Hs} {d : D} {n : Nat} (h : lstAt S d = some n) : d = .ref n ∧ ∃ xs, S[n]? = some (.lst xs) := by
  cases d with
  | ref m =>
    simp only [lstAt] at h
    split at h
    · rename_i xs hx
      cases h
      exact ⟨rfl, xs, hx⟩
    · cases h
  | _ => simp [lstAt] at h
theorem sE_pop0 {o : Expr} {co : CE} {apos cpos : Pos} (ho : PE X o (tE X.kw (evE C co))) (hso : notSuper o = true) (hline : (apos.endLine == cpos.line) = true) : PE X (.Call (.Attribute o "pop" apos) [] [] cpos) (tE X.kw (evE C (.pop0 co))) := by
  refine PE_wk (pe_bm0 PySem.F.plainAttrs_list PySem.F.slot_list_pop PySem.F.type_list_pop mt_pop ho (base_ok hso) hline) fun σ H Q ⟨Z, μ, ρ, S, rh, re, oo⟩ => ?_
  simp only [evE] at oo
  refine ⟨Z, μ, ρ, S, rh, re, oo.bind fun d S1 v μ1 H1 _ l1 rh1 r1 o1 => ?_⟩
  cases en : lstAt S1 d with
  | none => simp only [en] at o1; exact o1.elim
  | some n =>
    simp only [en] at o1
    obtain ⟨rfl, xs, hx⟩ := lstAt_ok en
    obtain ⟨a, rfl, ha⟩ := r1
    obtain ⟨vs, y, h1, h2, h3, h4⟩ := pop_rd rh1 ha hx rfl o1
    refine ⟨.inl ⟨rfl, vs, .inl (.inl h1)⟩, a, vs, y, rfl, rfl, h1, by rw [h2]; exact h3, ?_⟩
    have e : vs.dropLast = vs.eraseIdx (xs.length - 1) := by rw [← h2, PyProof.Rows.Copied.eraseIdx_last]
    rw [e]
    exact h4
theorem sE_pop1 {o e : Expr} {co ce : CE} {apos cpos : Pos} (ho : PE X o (tE X.kw (evE C co))) (he : PE X e (tE X.kw (evE C ce))) (hso : notSuper o = true) (hse : notStar e = true) (hline : (apos.endLine == cpos.line) = true) :
    PE X (.Call (.Attribute o "pop" apos) [e] [] cpos) (tE X.kw (evE C (.pop1 co ce))) := by
  refine PE_wk (pe_bm PySem.F.plainAttrs_list PySem.F.slot_list_pop PySem.F.type_list_pop mt_popAt ho (PA1 he hse) (base_ok hso) (few_ok hse) hline (star_cons hse) (by rfl)) fun σ H Q ⟨Z, μ, ρ, S, rh, re, oo⟩ => ?_
  simp only [evE] at oo
  refine ⟨Z, μ, ρ, S, rh, re, oo.bind fun d S1 v μ1 H1 _ l1 rh1 r1 o1 => ?_⟩
  cases en : lstAt S1 d with
  | none => simp only [en] at o1; exact o1.elim
  | some n =>
    simp only [en] at o1
    obtain ⟨rfl, xs, hx⟩ := lstAt_ok en
    obtain ⟨a, rfl, ha⟩ := r1
    obtain ⟨vs0, g1, _⟩ := rh1.ob n _ a hx ha
    refine ⟨.inl ⟨rfl, vs0, .inl (.inl g1)⟩, Z, μ1, ρ, S1, rh1, re.later l1, ?_⟩
    refine o1.bind fun y S2 w μ2 H2 _ l2 rh2 r2 o2 => ?_
    cases y with
    | dat p =>
      cases p with
      | int i =>
        simp only at o2
        cases r2
        cases hx2 : S2[n]? with
        | none => unfold popAt at o2; rw [hx2] at o2; exact o2.elim
        | some ob =>
          cases ob with
          | lst ys =>
            cases hk : popIx ys (some i) with
            | none => unfold popAt at o2; simp only [hx2, hk] at o2; exact o2.elim
            | some k =>
              obtain ⟨vs, y, h1, h2, h3, h4⟩ := pop_rd rh2 (l2.at ha) hx2 hk o2
              simp only [popIx] at hk
              split at hk
              · rename_i hb
                exact ⟨a, vs, i, k, y, rfl, rfl, h1, hb.1, hb.2, by rw [h2]; exact hk, h3, h4⟩
              · cases hk
          | _ => unfold popAt at o2; rw [hx2] at o2; exact o2.elim
      | _ => exact o2.elim
    | _ => exact o2.elim
theorem mk_rd {b : BF} {cs : CEs} {σ : St} {H : Hp} {Q : VK} (o : tE X.kw (evE C (.bfm b cs)) σ H Q) :
    tCB (fun xs H Q => ∃ Z μ S ds qs, RelH X.kw Z μ S H ∧ RelDs X.kw Z μ S H ds xs ∧ bfD S b ds = some (dL qs) ∧ ∀ p vs, H p = none → RpAll X.K H (Lv Z μ S) vs qs → qs.length ≤ sizeLine → Q (.ref p) (upd H p (.lst vs))) (tAs X.kw (evEs C cs)) σ H Q := by
  obtain ⟨Z, μ, ρ, S, rh, re, o⟩ := o
  simp only [evE] at o
  refine ⟨Z, μ, ρ, S, rh, re, o.bind fun ds S1 vs μ1 H1 _ l1 rh1 r1 o1 => ?_⟩
  split at o1
  · rename_i qs hq
    refine ⟨Z, μ1, S1, ds, qs, rh1, r1, hq, fun p ws hp ra hz => ?_⟩
    refine o1 _ (μ1 ++ [p]) _ (later_alloc rh1 hp _ _) (rh1.alloc hp ⟨ws, upd_same, by rw [List.length_map]; exact hz, ?_⟩) ⟨p, rfl, ?_⟩
    · have ra' := RpAll.later (later_alloc rh1 hp (.lst (qs.map .dat)) (.lst ws)) ra
      exact reld_dats ra'
    · rw [List.getElem?_append_right (by rw [rh1.len]; exact Nat.le_refl _), rh1.len]
      simp
  · exact o1.elim
end
end L2.LC

/-! LC: list(range(n)), extend. -/
namespace L2.LC
open PySem PySem.Spec PyProof.Rows
theorem paired_app {α β : Type} {F : α → β → Prop} : ∀ {a : List α} {b : List β} {c : List α} {d : List β}, Paired F a b → Paired F c d → Paired F (a ++ c) (b ++ d)
  | _, _, _, _, .nil, q => q
  | _, _, _, _, .cons x y, q => .cons x (paired_app y q)
section
variable {X : Cx} {C : Calls}
theorem rp_range {K : PySem.W.Frag} {H : Hp} {L : Addr → Prop} (n : Nat) : RpAll K H L ((List.range n).map fun (i : Nat) => V.int (0 + (i : Int))) ((List.range n).map fun (k : Nat) => PyData.int k) := by
  have e : ((List.range n).map fun (i : Nat) => V.int (0 + (i : Int))) = ((List.range n).map fun (i : Nat) => (i : Int)).map V.int := by simp
  have e2 : ((List.range n).map fun (k : Nat) => PyData.int k) = ((List.range n).map fun (i : Nat) => (i : Int)).map PyData.int := by simp
  rw [e, e2]
  exact rp_ints _
theorem sE_lrg {e : Expr} {c : CE} {p p2 pos pos2 : Pos} (hc : X.calm = true) (hg : Gl X "list") (hm : X.mg "list" = none) (hg2 : Gl X "range") (hm2 : X.mg "range" = none) (h : PE X e (tE X.kw (evE C c))) (hs : notStar e = true) : PE X (.Call (.Name "list" p) [.Call (.Name "range" p2) [e] [] pos2] [] pos) (tE X.kw (evE C (.lrg c))) := by
  refine PE_wk (pe_listRg hc hg hm (prg_1 hg2 hm2 h (star_cons hs))) fun σ H Q ⟨Z, μ, ρ, S, rh, re, o⟩ => ?_
  simp only [evE] at o
  refine ⟨Z, μ, ρ, S, rh, re, o.bind fun d S1 v μ1 H1 e0 l1 rh1 r1 o1 => ?_⟩
  clear e0
  split at o1
  · rename_i i
    split at o1
    · rename_i hr
      simp only [rngOk, Bool.and_eq_true, decide_eq_true_eq] at hr
      cases r1
      have ok : RgOk 0 i := ⟨by decide, by decide, by omega, by omega, by omega⟩
      refine ⟨i, rfl, ok, fun q hq => ?_⟩
      have e : rgV 0 i = (List.range i.toNat).map fun (j : Nat) => V.int (0 + (j : Int)) := by simp [rgV]
      rw [e]
      refine o1 (.ref q) μ1 _ (later_fresh hq _) (rh1.fresh hq _) (rp_lst rh1 hq (rp_range i.toNat) ?_)
      have : sizeLine = 16777216 := rfl
      simp; omega
    · exact o1.elim
  · exact o1.elim
theorem frz_rel {K : Kw} {Z : Addr → Prop} {μ : List Addr} {S S' : Hs} {H : Hp} {d d' : D} {v : V} (rh : RelH K Z μ S H) (r : RelD K Z μ S H d v) (e : frzR d S = .ok d' S') : Later μ S H μ S' H ∧ RelH K Z μ S' H ∧ RelD K Z μ S' H d' v := by
  unfold frzR at e
  cases d with
  | dat p => cases e; exact ⟨Later.refl _ _ _, rh, r⟩
  | scr ns => cases e
  | dct kvs => cases e; exact ⟨Later.refl _ _ _, rh, r⟩
  | exv x => cases e; exact ⟨Later.refl _ _ _, rh, r⟩
  | ref n =>
    simp only at e
    cases er : rd S (.ref n) with
    | none =>
      simp only [er] at e
      cases et : tabD S n with
      | none => simp only [et] at e; cases e
      | some qs =>
        simp only [et] at e
        cases e
        obtain ⟨a, rfl, ha⟩ := r
        unfold tabD at et
        split at et
        · rename_i kvs hx
          have hn : n < S.length := (List.getElem?_eq_some_iff.mp hx).1
          have tb : TabAt K H (Lv Z μ S) (RelD K Z μ S H) kvs a := rh.ob n _ a hx ha
          obtain ⟨l, rh2, nl⟩ := gone_later rh ha hn
          refine ⟨l, rh2, a, rfl, nl, ?_⟩
          obtain ⟨z, m, ob, es, ep, xs, h1, h2, h3, h4, h5, h6⟩ := tb
          obtain ⟨p1, p2⟩ := tab_dct et h6
          have tb2 : TabAt K H (Lv Z μ S) (fun p u => Rp K.fr H (Lv Z μ S) u p) qs a := ⟨by rw [p2]; exact z, m, ob, es, ep, xs, h1, h2, h3, h4, h5, p1⟩
          exact tb2.mono (fun u e => e) (fun v p r => Rp.later l r) fun p u r => Rp.later l r
        · cases et
    | some p =>
      simp only [er] at e
      cases e
      obtain ⟨a, rfl, ha⟩ := r
      simp only [rd] at er
      split at er
      · rename_i xs hx
        cases eq : dats xs with
        | none => rw [eq] at er; cases er
        | some qs =>
          rw [eq] at er
          simp only [Option.map_some, Option.some.injEq] at er
          subst er
          have hn : n < S.length := (List.getElem?_eq_some_iff.mp hx).1
          obtain ⟨vs, h1, h2, h3⟩ := rh.ob n _ a hx ha
          obtain ⟨l, rh2, nl⟩ := gone_later rh ha hn
          exact ⟨l, rh2, Rp.lst ⟨.inl h1, nl⟩ (by rw [dats_length eq]; exact h2) (RpAll.later l (RpAll.of_dats h3 eq))⟩
      · cases er
theorem frzR_ex {d : D} {h h' : Hs} {x : Xn} (e : frzR d h = .ex x h') : False := by
  unfold frzR at e
  repeat' split at e
  all_goals cases e
theorem sS_fz {i : Nat} {ss : List Stmt} {cs : CSs} (h : PSs X ss (tF X.kw (evSs C cs))) : PSs X ss (tF X.kw (evSs C (.cons (.fz i) cs))) := by
  refine PSs_wk h fun E σ H ⟨Z, μ, ρ, S, rh, re, o⟩ => ?_
  simp only [evSs, evS] at o
  cases ei : ρ[i]? with
  | none => simp only [ei] at o; exact o.elim
  | some od =>
    cases od with
    | none => simp only [ei] at o; exact o.elim
    | some d =>
      simp only [ei] at o
      cases ef : frzR d S with
      | no => rw [ef] at o; exact o.elim
      | ex x h' => exact (frzR_ex ef).elim
      | ok d' S' =>
        rw [ef] at o
        simp only [R.bind_ok] at o
        obtain ⟨v, hv, rv⟩ := re.2 i d ei
        obtain ⟨l, rh2, r2⟩ := frz_rel rh rv ef
        refine ⟨Z, μ, ρ.set i (some d'), S', rh2, ?_, OutF.later o l⟩
        have re2 := re.later l
        refine ⟨by simp [re2.1], fun j e q => ?_⟩
        by_cases hj : i = j
        · subst hj
          have hl : i < ρ.length := (List.getElem?_eq_some_iff.mp ei).1
          rw [List.getElem?_set_self hl] at q
          cases q
          exact ⟨v, hv, r2⟩
        · rw [List.getElem?_set_ne hj] at q
          exact re2.2 j e q
theorem call_list_tab (hc : X.calm = true) : CallR X (.type "list") (fun xs H Q => ∃ d o ks, xs = [V.ref d] ∧ DkR H d o ks ∧ ks.length ≤ sizeLine ∧ ∀ p, H p = none → Q (.ref p) (upd H p (.lst (ks.map V.ref)))) := by
  intro pins s σ H xs us Q I r h
  obtain ⟨d, o, ks, rfl, ⟨hs, hd, hx, es, ep, hdt, hk⟩, hz, q⟩ := h
  obtain ⟨u, rfl, rx⟩ := r.one
  cases rx
  have ho : s.heap.get? d = some o := (I.hok d _ hd).1
  have hsz : es.size = ks.length := by
    have := congrArg List.length hk
    simpa using this
  refine PySem.W.kdl_call (kdl_raw hs hx hdt) (I.ok.hd hc) ho (by omega) fun h' tk acc' c' kp e it => ?_
  have ea : acc'.toList = ks.map Value.ref := by
    have hl : acc'.toList.length = ks.length := by rw [Array.length_toList, it.1]; exact hsz
    apply List.ext_getElem?
    intro j
    cases hj : acc'.toList[j]? with
    | none =>
      have h1 := List.getElem?_eq_none_iff.mp hj
      rw [List.getElem?_eq_none (by simp; omega)]
    | some v =>
      obtain ⟨en, hen, hv⟩ := it.2 j v (by rw [← Array.getElem?_toList]; exact hj)
      rw [← hk, List.getElem?_map, Array.getElem?_toList, hen, hv]; rfl
  have rv : Vals (ks.map V.ref) acc'.toList := by rw [ea]; exact vals_refs _
  refine ⟨.ref s.heap.objs.size, _, I.laid (t' := tk) (o := .lst (ks.map V.ref)) kp (Nat.le_refl _) ?_, rfl, q _ (I.hok.fresh (Nat.le_refl _))⟩
  exact ⟨by rw [List.length_map]; exact hz, acc'.toList, c', rv, by rw [Array.toArray_toList]; exact e⟩
theorem sE_lsd {e : Expr} {c : CE} {p pos : Pos} (hc : X.calm = true) (hg : Gl X "list") (hm : X.mg "list" = none) (h : PE X e (tE X.kw (evE C c))) (hs : notStar e = true) : PE X (.Call (.Name "list" p) [e] [] pos) (tE X.kw (evE C (.lsd c))) := by
  refine PE_wk (pe_callTy (call_list_tab hc) hg hm (by decide +kernel) (PA1 h hs) (by decide) (by decide) (star_cons hs) (back_any rfl)) fun σ H Q ⟨Z, μ, ρ, S, rh, re, o⟩ => ?_
  simp only [evE] at o
  refine ⟨Z, μ, ρ, S, rh, re, o.bind fun d S1 v μ1 H1 e0 l1 rh1 r1 o1 => ?_⟩
  clear e0
  split at o1
  · rename_i kvs
    obtain ⟨a, rfl, z1, tb⟩ := r1
    obtain ⟨o, ks, dk, rk, hz0⟩ := tb.keys
    have hl := rk.length
    simp only [List.length_map] at hl
    refine ⟨a, o, ks, rfl, dk, by omega, fun q hq => ?_⟩
    exact o1 (.ref q) μ1 _ (later_fresh hq _) (rh1.fresh hq _) (rp_lst rh1 hq rk (by simpa using hz0))
  · exact o1.elim
/-- extend by a list that is read -/
def rExtR : V → List V → Hp → VK → Prop := fun x vs H Q => ∃ l b xs zs, x = .ref l ∧ vs = [.ref b] ∧ H l = some (.lst xs) ∧ Rd H b (.lst zs) ∧ xs.length + zs.length ≤ sizeLine ∧ Q .non (upd H l (.lst (xs ++ zs)))
theorem mt_extR : MtM X "list.extend" rExtR := by
  intro pins s σ H x vs v us Q I rx rv h
  obtain ⟨l, b, xs, zs, rfl, rfl, hH, hB, hz, q⟩ := h
  cases rx
  obtain ⟨u, rfl, ru⟩ := rv.one
  cases ru
  obtain ⟨z, its, n, r, hl, e⟩ := I.lstM hH
  obtain ⟨z2, its2, n2, r2, e2⟩ := hB.ok I.hok
  have hl2 := r2.length
  have hsz : its.toArray.size + its2.toArray.size ≤ sizeLine := by rw [List.size_toArray, List.size_toArray]; omega
  have hlong : ¬ (!its.toArray.isEmpty && Builtin.List.listTooLong (its.toArray.size + its2.toArray.size)) = true := by
    rw [notLongL hsz, Bool.and_false]
    exact Bool.false_ne_true
  refine call_meets F.slot_list_extend ⟨_, e, rfl⟩ F.entry_list_extend (F.args_list_extend_2 _ _)
    (AutoSeq1.list_extend_list_list_0 l its.toArray n b its2.toArray n2 hlong (by rw [List.size_toArray]; omega) (by omega)) ⟨e, e2, ?_⟩
  refine ⟨.non, _, I.lset (its' := its ++ its2) hH e (by simp) (r.append r2) ?_, rfl, q⟩
  rw [List.length_append]
  omega
theorem sS_ext {o e : Expr} {co ce : CE} {apos cpos pos : Pos} (ho : PE X o (tE X.kw (evE C co))) (he : PE X e (tE X.kw (evE C ce))) (hso : notSuper o = true) (hse : notStar e = true) (hline : (apos.endLine == cpos.line) = true) :
    PS X (.Expr (.Call (.Attribute o "extend" apos) [e] [] cpos) pos) (tF X.kw (evS C (.ext co ce))) := by
  refine PS_wk (ps_expr (pe_bm PySem.F.plainAttrs_list PySem.F.slot_list_extend PySem.F.type_list_extend mt_extR ho (PA1 he hse) (base_ok hso) (few_ok hse) hline (star_cons hse) (by rfl)) rfl) fun E σ H ⟨Z, μ, ρ, S, rh, re, oo⟩ => ?_
  simp only [evS] at oo
  refine ⟨Z, μ, ρ, S, rh, re, oo.bind fun d S1 v μ1 H1 _ l1 rh1 r1 o1 => ?_⟩
  cases en : lstAt S1 d with
  | none => simp only [en] at o1; exact o1.elim
  | some n =>
    simp only [en] at o1
    cases d with
    | dat p => simp [lstAt] at en
    | scr ns => simp [lstAt] at en
    | dct kvs => simp [lstAt] at en
    | exv x => simp [lstAt] at en
    | ref m =>
      obtain ⟨a, rfl, ha⟩ := r1
      simp only [lstAt] at en
      split at en
      · rename_i xs0 hx0
        have en' := Option.some.inj en
        subst en'
        obtain ⟨vs0, g1, g2, g3⟩ := rh1.ob m _ a hx0 ha
        refine ⟨.inl ⟨rfl, vs0, .inl (.inl g1)⟩, Z, μ1, ρ, S1, rh1, re.later l1, ?_⟩
        refine o1.bind fun y S2 w μ2 H2 e0 l2 rh2 r2 o2 => ?_
        clear e0
        unfold extAt at o2
        split at o2
        · rename_i xs ps hx
          split at o2
          · rename_i hz
            obtain ⟨vs, h1, h2, h3⟩ := rh2.ob m _ a hx (l2.at ha)
            have hm := l2.at ha
            cases r2 with
            | lst fx hsz rp =>
              rename_i b zs
              have hzl := rp.length
              refine ⟨a, b, vs, zs, rfl, rfl, h1, fx.1, by rw [← h3.length, hzl]; exact hz, ?_⟩
              have l3 : Later μ2 S2 H2 μ2 (S2.set m (.lst (xs ++ ps.map .dat))) (upd H2 a (.lst (vs ++ zs))) := by
                have lv : Live μ2 S2 a := ⟨m, _, hm, hx, rfl⟩
                refine ⟨⟨[], by simp⟩, fun b u h _ nl => ⟨by rw [upd_ne (show b ≠ a from fun e => nl (by rw [e]; exact lv))]; exact h, fun ⟨k, u', q1, q2, q3⟩ => ?_⟩, st_upd _ _ _⟩
                by_cases e : k = m
                · subst e
                  rw [hm] at q1
                  cases q1
                  exact nl lv
                · rw [List.getElem?_set_ne (Ne.symm e)] at q2
                  exact nl ⟨k, u', q1, q2, q3⟩
              have k := rh2.write (o' := .lst (xs ++ ps.map .dat)) (u := .lst (vs ++ zs)) hx rfl rfl hm ⟨vs ++ zs, upd_same, by rw [List.length_append, List.length_map]; exact hz, paired_app (RelDs.later l3 h3) (RelDs.later l3 (reld_dats rp))⟩
              exact o2 σ μ2 _ k.1 k.2 (((re.later l1).later l2).later k.1)
          · exact o2.elim
        · exact o2.elim
      · cases en
end
end L2.LC

set_option maxHeartbeats 2000000
/-! LC: lambdas (no parameter, or one with a default that nobody gives): made, called. -/
namespace L2.LC
open PySem PySem.Spec PyProof.Rows
abbrev lamF (q : Str) (pr : Arguments) (bd : Expr) (sc : Scope) (cl : List (Str × Addr)) (pm cd ct dv : Value) : FuncData := { PySem.W.kla_fn "<lambda>" q pr bd sc cl pm cd ct with defaults := dv }
abbrev lamO (q : Str) (pr : Arguments) (bd : Expr) (sc : Scope) (cl : List (Str × Addr)) (pm cd ct dv : Value) : Obj := { cls := .type "function", data := .func (lamF q pr bd sc cl pm cd ct dv) }
section
variable {M : Model} {A : Around} {E : Value → Shared → Prop} {s : Shared}
theorem closT {α : Type} {cl : List (Str × Addr)} {its : List Value} {jp : Value → Sem α} {Q : α → Shared → Prop} (h : ∀ (ct : Value) (h1 : Heap), (∀ b o, s.heap.get? b = some o → h1.get? b = some o) → s.heap.objs.size ≤ h1.objs.size → wpAny M A (jp ct) Q E { s with heap := h1 }) :
    wpAny M A (if cl.isEmpty = true then pure Value.none >>= jp else newTextTuple its >>= jp) Q E s := by
  cases cl with
  | nil => exact wpAny_bind (wpAny_pure (h _ s.heap (fun _ _ e => e) (Nat.le_refl _)))
  | cons p r => exact wpAny_bind (wpAny_newTextTuple (h _ _ (fun _ _ e => Heap.get?_push_of_some _ e) (by rw [Heap.size_push]; omega)))
theorem mkTail_ok {q : Str} {pr : Arguments} {bd : Expr} {sc : Scope} {env : Env} {c P : Addr} {ps : Array Value} {pos : Pos} {fl : Nat} {mg : Str → Option Value} {cl : List (Str × Addr)} {dv : Value} {Q : Value → Shared → Prop}
    (hcl : closureFor sc env = pure cl) (hge : env.globals = mainGlobals) (hg : s.heap.Ns mainGlobals mg) (hcode : env.code = .ref c) (hC : PySem.W.CodeHd s.heap c P) (hP : s.heap.get? P = some (PySem.W.tabObj ps)) (ht : TriplesOk ps.toList) (hgP : mainGlobals ≠ P) (hb : s.heap.BuiltinsAt mg P)
    (hnew : codeAmong pos ps.toList = none → ∀ (c' : Addr) (ct : Value) (h' : Heap) (tk : Nat), Heap.ExtBut P s.heap h' → s.heap.objs.size ≤ c' → c' < h'.objs.size → h'.CodeRec (.ref c') q → h'.get? P = some (PySem.W.tabObj (ps ++ #[rawInt pos.line, rawInt pos.col, .ref c'])) →
      Q (.ref h'.objs.size) { s with heap := h'.push (lamO q pr bd sc cl ((mg "__name__").getD .none) (.ref c') ct dv), toks := tk })
    (hhit : ∀ cv, codeAmong pos ps.toList = some cv → ∀ (ct : Value) (h' : Heap) (tk : Nat), (∀ b o, s.heap.get? b = some o → h'.get? b = some o) → s.heap.objs.size ≤ h'.objs.size →
      Q (.ref h'.objs.size) { s with heap := h'.push (lamO q pr bd sc cl ((mg "__name__").getD .none) cv ct dv), toks := tk }) :
    wpAny M A (makeTail "<lambda>" q pr (.expr bd) sc env dv .none none pos fl) Q E s := by
  obtain ⟨bm, ob, b1, b2, _, b3, b4, b5, b6, b7⟩ := hb
  unfold makeTail
  rw [hcl, hge]
  refine wpAny_bind (wpAny_pure (closT fun ct h1 kp sz => ?_))
  have C1 := hC.keeps kp
  have P1 := kp _ _ hP
  have G1 := hg.keeps kp
  cases hc : codeAmong pos ps.toList with
  | none =>
    refine wpAny_bind (wpAny_functionCodeX hcode (C1.code P1 ht) (C1.tab P1) hc fun c' h' tk hx hge' hlt _ hrec htb _ => ?_)
    have G2 := G1.extBut hx hgP
    refine wpAny_bind (wpAny_builtinsFor G2 b1 b2 (hx _ _ b3 (kp _ _ b4)) b5 b6 b7 (wpAny_bind (wpAny_nsGet G2 (wpAny_bind (wpAny_pure (wpAny_newObj_type ?_ (by size_fits)))))))
    exact hnew hc c' ct h' tk (fun b o hb e => hx b o hb (kp b o e)) (Nat.le_trans sz hge') hlt hrec htb.2
  | some cv =>
    refine wpAny_bind (wpAny_functionCode_hit hcode (C1.code P1 ht) hc (wpAny_bind (wpAny_builtinsFor G1 b1 b2 (kp _ _ b4) b5 b6 b7 (wpAny_bind (wpAny_nsGet G1 (wpAny_bind (wpAny_pure (wpAny_newObj_type ?_ (by size_fits)))))))))
    exact hhit cv hc ct h1 s.toks kp sz
end
/-- what a lambda may have: nothing, or one name with a number as its default -/
def lamParB : Arguments → Option (Option Str)
  | ⟨[], [], none, [], [], none, []⟩ => some none
  | ⟨[], [⟨y, none, _⟩], none, [], [], none, [.Constant (.int _) _ _]⟩ => if y = "_law_y" ∨ y = "_law_z" then some (some y) else none
  | _ => none
inductive LamPar : Arguments → Option Str → Prop
  | non : LamPar ⟨[], [], none, [], [], none, []⟩ none
  | one (y : Str) (i : Int) (j : Nat) (p p' : Pos) (hy : y = "_law_y" ∨ y = "_law_z") : LamPar ⟨[], [⟨y, none, p⟩], none, [], [], none, [.Constant (.int i) j p']⟩ (some y)
theorem lamPar_of {pr : Arguments} {o : Option Str} (h : lamParB pr = some o) : LamPar pr o := by
  unfold lamParB at h
  split at h
  · cases h; exact .non
  · split at h
    · cases h; exact .one _ _ _ _ _ (by assumption)
    · cases h
  · cases h
/-- where the default lies -/
def DvOk (o : Option Str) (dv : Value) (h : Heap) (H : Hp) (fs : List Addr) : Prop := match o with
  | none => dv = .none
  | some _ => ∃ (td : Addr) (u : Value), dv = .ref td ∧ h.get? td = some { cls := .type "tuple", data := .seq #[u] } ∧ H td = none ∧ td ∉ fs
theorem dv_binds {M : Model} {A : Around} {E : Value → Shared → Prop} {s : Shared} {pr : Arguments} {o : Option Str} {q : Str} {bd : Expr} {sc : Scope} {cl : List (Str × Addr)} {pm cd ct dv : Value} {Q : List (Str × Value) → Shared → Prop} (hp : LamPar pr o)
    (hd : match o with | none => dv = .none | some _ => ∃ (td : Addr) (u : Value), dv = .ref td ∧ s.heap.get? td = some { cls := .type "tuple", data := .seq #[u] })
    (h : ∀ bs : List (Str × Value), (∀ x ∈ bs, some x.1 = o) → Q bs s) : wpAny M A (bindArgs (lamF q pr bd sc cl pm cd ct dv) ⟨[], []⟩) Q E s := by
  cases hp with
  | non =>
    cases hd
    exact wpAny_pure (h [] fun x hx => nomatch hx)
  | one y i j p p' hy =>
    obtain ⟨td, u, rfl, ho⟩ := hd
    obtain ⟨k, e1, e2⟩ : ∃ k, bindArgs (lamF q ⟨[], [⟨y, none, p⟩], none, [], [], none, [.Constant (.int i) j p']⟩ bd sc cl pm cd ct (.ref td)) ⟨[], []⟩ = seqItems? (.ref td) >>= k ∧ k (some #[u]) = pure [(y, u)] := by rcases hy with rfl | rfl <;> exact ⟨_, rfl, rfl⟩
    rw [e1]
    refine wpAny_bind (wpAny_seqItems ho rfl ?_)
    rw [e2]
    exact wpAny_pure (h [(y, u)] fun x hx => by simp at hx; rw [hx])
/-- tables grow, all else is as it was -/
theorem RelH.grow {K : Kw} {Z : Addr → Prop} {μ : List Addr} {S : Hs} {H H' : Hp} (rh : RelH K Z μ S H) (keep : ∀ a u, H a = some u → noTbl u → H' a = some u) (st : ∀ a o, H a = some o → ∃ o', H' a = some o') (tb : TbOk (tabsK K.fr) (Lv Z μ S) H') : Later μ S H μ S H' ∧ RelH K Z μ S H' := by
  have l' : Later μ S H μ S H' := ⟨⟨[], by simp⟩, fun a u e nt n => ⟨keep a u e nt, n⟩, st⟩
  refine ⟨l', tb, fun a z => ⟨(rh.zt a z).1.elim fun u e => st a u e, (rh.zt a z).2⟩, rh.len, rh.nd, fun a z => (rh.tr a z).elim fun u e => st a u e, fun n u a q1 q2 => ?_⟩
  have q := rh.ob n u a q1 q2
  cases u with
  | lst ds => obtain ⟨vs, e, _⟩ := id q; exact q.later l' fun v e' => by rw [e] at e'; cases e'; exact keep a _ e trivial
  | dic kvs => obtain ⟨qs, e, _⟩ := id q; exact q.later l' fun v e' => by rw [e] at e'; cases e'; exact keep a _ e trivial
  | tab kvs => obtain ⟨_, _, _, _, _, _, e, _⟩ := id q; exact q.later l' fun v e' => by rw [e] at e'; cases e'; exact keep a _ e trivial
  | gone => trivial
section
variable {X : Cx} {pins : List (Addr × Obj)} {σ : St} {H : Hp} {s : Shared} {Z : Addr → Prop} {μ : List Addr} {S : Hs}
theorem far_stack (I : Inv X pins σ H s) {f : Addr} (hf : s.heap.objs.size ≤ f) : f ∉ frs X.stack := fun z => by
  rcases List.mem_cons.mp (I.stkSub _ z) with e | e
  · exact absurd (Nat.lt_of_lt_of_le (e ▸ I.lt) hf) (Nat.lt_irrefl _)
  · exact I.nofs hf e
/-- behind its defaults a lambda is made -/
theorem lam_tail {c P : Addr} {pr : Arguments} {bd : Expr} {sc : Scope} {pos : Pos} {dv : Value} {Q : Value → Shared → Prop} {E : Value → Shared → Prop} (I : Inv X pins σ H s) (rh : RelH X.kw Z μ S H) (TB : LamX.TabB X.base X.mg c P) (hcode : X.env.code = .ref c)
    (hm : (P, X.env.qual ++ ("<lambda>" : Str)) ∈ tabsK X.K) (hu : ∀ p ∈ tabsK X.K, p.1 = P → p.2 = X.env.qual ++ ("<lambda>" : Str)) (hfree : ∀ y ∈ sc.names, y.2 = .free → ∃ c, X.env.cells.lookup y.1 = some c)
    (h : ∀ (f c' : Addr) (pm ct : Value) (H1 : Hp) (s' : Shared), Inv X pins σ H1 s' → Later μ S H μ S H1 → RelH X.kw Z μ S H1 → s'.heap.get? f = some (lamO (X.env.qual ++ ("<lambda>" : Str)) pr bd sc (cloFrom X.env.cells sc.names []) pm (.ref c') ct dv) → H1 f = none → f ∉ frs X.stack →
      H1 c' = some (LamX.CodeO c' (X.env.qual ++ ("<lambda>" : Str))) → (∀ b o, s.heap.get? b = some o → H b = none → s'.heap.get? b = some o ∧ H1 b = none) → Q (.ref f) s') :
    wpAny (model X.prog X.w) X.A (makeTail "<lambda>" (X.env.qual ++ ("<lambda>" : Str)) pr (.expr bd) sc X.env dv .none none pos pos.line) Q E s := by
  obtain ⟨ps, hP, nP, ht, ha⟩ := rh.tb _ hm
  have oP : s.heap.get? P = some (PySem.W.tabObj ps) := I.hok P _ hP
  refine mkTail_ok (mg := X.mg) (closure_ok hfree) I.ok.glob (I.mod.glob.keeps I.bk) hcode (TB.code.keeps I.bk) oP ht TB.gP (TB.bm.keeps I.bk) (fun hc c' ct h' tk hx hge hlt hrec htb => ?_) fun cv hc ct h' tk kp hsz => ?_
  · obtain ⟨c2, oc, vs, t, e2, hoc, hd, hv⟩ := hrec
    cases e2
    have nC : H c' = none := I.hok.fresh hge
    have hsz : s.heap.objs.size ≤ h'.objs.size := Nat.le_trans hge (Nat.le_of_lt hlt)
    have nPc : P ≠ c' := ne_of_none hP nC
    have I1 := LamX.inv_table (t' := tk) (q := X.env.qual ++ ("<lambda>" : Str)) (more := #[rawInt pos.line, rawInt pos.col, .ref c']) (h' := h'.push (lamO (X.env.qual ++ ("<lambda>" : Str)) pr bd sc (cloFrom X.env.cells sc.names []) ((X.mg "__name__").getD .none) (.ref c') ct dv)) I hP
      (fun b o hb e => Heap.get?_push_of_some _ (hx b o hb e)) (Heap.get?_push_of_some _ htb) hge ⟨oc, vs, t, Heap.get?_push_of_some _ hoc, hd, hv⟩
    have at_ : ∀ b, b ≠ P → b ≠ c' → upd (upd H P (.tbl (ps ++ #[rawInt pos.line, rawInt pos.col, .ref c']))) c' (LamX.CodeO c' (X.env.qual ++ ("<lambda>" : Str))) b = H b := fun b h1 h2 => by rw [upd_ne h2, upd_ne h1]
    have kp : ∀ a u, H a = some u → noTbl u → upd (upd H P (.tbl (ps ++ #[rawInt pos.line, rawInt pos.col, .ref c']))) c' (LamX.CodeO c' (X.env.qual ++ ("<lambda>" : Str))) a = some u := fun a u e nt => by
      rw [at_ a (fun z => by rw [z, hP] at e; cases e; exact nt) (ne_of_none e nC)]
      exact e
    have g := rh.grow kp (fun a o e => (st_upd H P _ a o e).elim fun o' e' => st_upd _ c' _ a o' e') (fun p hp => by
      by_cases hb : p.1 = P
      · have eL : (ps ++ #[rawInt pos.line, rawInt pos.col, .ref c']).toList = ps.toList ++ [rawInt pos.line, rawInt pos.col, .ref c'] := by simp
        rw [hb, hu p hp hb]
        refine ⟨_, by rw [upd_ne nPc, upd_same], nP, by rw [eL]; exact PySem.TriplesOk_snoc _ _ _ _ ht, fun p' cv hcv => ?_⟩
        rw [eL] at hcv
        rcases LamX.among_app _ ht hcv with z | z
        · obtain ⟨c0, e1, e2, e3⟩ := ha p' cv z
          exact ⟨c0, e1, kp _ _ e2 trivial, e3⟩
        · exact ⟨c', z, upd_same, rh.notlive nC⟩
      · obtain ⟨ps', a1, a2, a3, a4⟩ := rh.tb p hp
        refine ⟨ps', by rw [at_ _ hb (ne_of_none a1 nC)]; exact a1, a2, a3, fun p' cv hcv => ?_⟩
        obtain ⟨c0, e1, e2, e3⟩ := a4 p' cv hcv
        exact ⟨c0, e1, kp _ _ e2 trivial, e3⟩)
    refine h h'.objs.size c' ((X.mg "__name__").getD .none) ct _ _ I1 g.1 g.2 (Heap.get?_push_size _ rfl) ?_ (far_stack I hsz) upd_same fun b o e n => ?_
    · rw [at_ _ (Nat.ne_of_gt (Nat.lt_of_lt_of_le (Heap.lt_size oP) hsz)) (Nat.ne_of_gt hlt)]
      exact I.hok.fresh hsz
    · have bP : b ≠ P := fun z => by rw [z, hP] at n; cases n
      exact ⟨Heap.get?_push_of_some _ (hx b o bP e), by rw [at_ b bP (Nat.ne_of_lt (Nat.lt_of_lt_of_le (Heap.lt_size e) hge))]; exact n⟩
  · obtain ⟨c', rfl, hco, _⟩ := ha pos cv hc
    exact h h'.objs.size c' ((X.mg "__name__").getD .none) ct H _ (I.kept (t' := tk) fun b o e => Heap.get?_push_of_some _ (kp b o e)) (Later.refl _ _ _) rh (Heap.get?_push_size _ rfl) (I.hok.fresh hsz) (far_stack I hsz) hco fun b o e n => ⟨Heap.get?_push_of_some _ (kp b o e), n⟩
theorem lam_mk {c P : Addr} {pr : Arguments} {o : Option Str} {bd : Expr} {sc : Scope} {pos : Pos} {Q : Value → Shared → Prop} (hp : LamPar pr o) (I : Inv X pins σ H s) (rh : RelH X.kw Z μ S H) (TB : LamX.TabB X.base X.mg c P) (hcode : X.env.code = .ref c)
    (hm : (P, X.env.qual ++ ("<lambda>" : Str)) ∈ tabsK X.K) (hu : ∀ p ∈ tabsK X.K, p.1 = P → p.2 = X.env.qual ++ ("<lambda>" : Str)) (hfree : ∀ y ∈ sc.names, y.2 = .free → ∃ c, X.env.cells.lookup y.1 = some c)
    (h : ∀ (f c' : Addr) (pm ct dv : Value) (H1 : Hp) (s' : Shared), Inv X pins σ H1 s' → Later μ S H μ S H1 → RelH X.kw Z μ S H1 → s'.heap.get? f = some (lamO (X.env.qual ++ ("<lambda>" : Str)) pr bd sc (cloFrom X.env.cells sc.names []) pm (.ref c') ct dv) → H1 f = none → f ∉ frs X.stack →
      H1 c' = some (LamX.CodeO c' (X.env.qual ++ ("<lambda>" : Str))) → DvOk o dv s'.heap H1 (frs X.stack) → Q (.ref f) s') :
    wpAny (model X.prog X.w) X.A (eval (.Lambda pr bd sc pos) X.env) Q X.xe s := by
  cases hp with
  | non =>
    rw [arm_eval_Lambda]
    refine wpAny_bind (wpAny_pure (wpAny_bind (wpAny_holding (wpAny_pure ?_))))
    exact lam_tail I rh TB hcode hm hu hfree fun f c' pm ct H1 s' I1 l1 rh1 h1 h2 h3 h4 _ => h f c' pm ct .none H1 s' I1 l1 rh1 h1 h2 h3 h4 rfl
  | one y i j p p' hy =>
    rw [arm_eval_Lambda]
    show wpAny _ _ (do let dv ← evalAll [eval (.Constant (.int i) j p') X.env]; let kdv ← holding dv (evalAllOpt []); makeFunction "<lambda>" (X.env.qual ++ ("<lambda>" : Str)) ⟨[], [⟨y, none, p⟩], none, [], [], none, [.Constant (.int i) j p']⟩ (.expr bd) sc X.env dv kdv [] pos pos.line) Q X.xe s
    refine wpAny_bind (wpAny_bind (thn (pe_int.run pins s σ H (fun _ H' => H' = H) I rfl) fun u s1 ⟨v, H1, I1, _, e⟩ => ?_))
    subst e
    refine wpAny_bind (wpAny_holding (wpAny_pure (wpAny_pure (wpAny_bind (wpAny_holding (wpAny_pure ?_))))))
    have I2 : Inv X pins σ H1 { s1 with heap := s1.heap.push { cls := .type "tuple", data := .seq #[u] } } := I1.kept (t' := s1.toks) fun b o e => Heap.get?_push_of_some _ e
    refine wpAny_bind (wpAny_newTextTuple (wpAny_bind (wpAny_pure (wpAny_bind (wpAny_pure ?_)))))
    refine lam_tail I2 rh TB hcode hm hu hfree fun f c' pm ct H2 s' J1 l1 rh1 h1 h2 h3 h4 kp => h f c' pm ct _ H2 s' J1 l1 rh1 h1 h2 h3 h4 ⟨s1.heap.objs.size, u, rfl, ?_⟩
    have k := kp s1.heap.objs.size _ (Heap.get?_push_size _ rfl) (I1.hok.fresh (Nat.le_refl _))
    exact ⟨k.1, k.2, far_stack I1 (Nat.le_refl _)⟩
end
/-! ### a lambda is called -/
/-- its names: captured ones, globals, its parameter -/
structure LamSc (N : List Str) (sc scope : Scope) (o : Option Str) : Prop where
  kind : scope.kind = .function
  co : scope.isCoroutine = false
  gen : scope.isGenerator = false
  own : ∀ y ∈ scope.names, y.2 ≠ .cell ∧ (y.2 = .local → y.1 ∉ N)
  par : ∀ y, o = some y → scope.names.lookup y = some .local
  free : ∀ y ∈ scope.names, y.2 = .free → sc.names.lookup y.1 = some .cell ∨ sc.names.lookup y.1 = some .free
def lamScB (N : List Str) (sc scope : Scope) (o : Option Str) : Bool :=
  decide (scope.kind = .function) && !scope.isCoroutine && !scope.isGenerator && (scope.names.all fun y => !decide (y.2 = .cell) && (!decide (y.2 = .local) || !N.contains y.1) && (!decide (y.2 = .free) || decide (sc.names.lookup y.1 = some .cell) || decide (sc.names.lookup y.1 = some .free))) &&
    (match o with | none => true | some y => decide (scope.names.lookup y = some .local))
theorem lamSc_by {N : List Str} {sc scope : Scope} {o : Option Str} (h : lamScB N sc scope o = true) : LamSc N sc scope o := by
  unfold lamScB at h
  simp only [Bool.and_eq_true, Bool.or_eq_true, Bool.not_eq_true', decide_eq_true_eq, decide_eq_false_iff_not, List.all_eq_true] at h
  obtain ⟨⟨⟨⟨h1, h2⟩, h3⟩, h4⟩, h5⟩ := h
  refine ⟨h1, h2, h3, fun y hy => ⟨(h4 y hy).1.1, fun e hn => ?_⟩, fun y e => ?_, fun y hy e => ?_⟩
  · rcases (h4 y hy).1.2 with z | z
    · exact z e
    · simp [hn] at z
  · subst e
    exact of_decide_eq_true h5
  · rcases (h4 y hy).2 with (z | z) | z
    · exact absurd e z
    · exact .inl z
    · exact .inr z
theorem LamSc.has {X : Cx} {scope : Scope} {o : Option Str} (L : LamSc X.N X.env.scope scope o) (ok : X.Ok) : ∀ y ∈ scope.names, y.2 = .free → ∃ c, X.env.cells.lookup y.1 = some c := fun y hy e =>
  ok.has _ (L.free y hy e)
section
variable {X : Cx} {pins : List (Addr × Obj)} {σ : St} {H HZ : Hp} {s s1 : Shared}
theorem lam_in {A : Around} {outer : List Env} {E : XK} {scope : Scope} {f c' : Addr} {o : Option Str} {h1 : Heap} {tk : Nat} {m : Str → Option Value} (I : Inv X pins σ H s) (L : LamSc X.N X.env.scope scope o) (e0 : Env0 X.prog X.w X.K X.mg X.base A outer s1 HZ) (hd : A.handled = none)
    (un : Un (frs X.stack) [] H HZ s.heap s1.heap) (hns : h1.Ns s1.heap.objs.size m) (kp : ∀ b u, s1.heap.get? b = some u → h1.get? b = some u) :
    Inv (LamX.lamCx X A outer s1 HZ E scope f c') [] σ HZ { s1 with heap := h1, toks := tk } := by
  have hf := L.has I.ok
  have down : ∀ {y : Str} {c : Addr}, (cloFrom X.env.cells scope.names []).lookup y = some c → X.env.cells.lookup y = some c := fun {y c} e => by
    rcases cloFrom_mem (PySem.mem_of_lookup e) with z | ⟨z1, z2⟩
    · cases z
    · obtain ⟨c1, q⟩ := hf _ z1 rfl
      have q' : X.env.cells.lookup y = some c1 := q
      have z3 : c = c1 := by rw [z2, q']; rfl
      exact z3 ▸ q'
  have up : ∀ {y : Str}, scope.names.lookup y = some .free → ∃ c, (cloFrom X.env.cells scope.names []).lookup y = some c := fun {y} q =>
    mem_lookup (cloFrom_has (cells := X.env.cells) (acc := []) (show (y, NameKind.free) ∈ scope.names from PySem.mem_of_lookup q))
  have cellOn : ∀ {c : Addr} {v : Option Value}, H c = none → s.heap.IsCell c v → h1.IsCell c v := fun {c v} n ⟨ob, ho, hd⟩ =>
    (un.any ho n List.not_mem_nil).elim fun sl q => ⟨_, kp _ _ q, hd⟩
  have noE : ∀ b : Addr, b ∉ (LamX.lamCx X A outer s1 HZ E scope f c').ex := fun b z => List.not_mem_nil (show b ∈ ([] : List Addr) from z)
  have okk : (LamX.lamCx X A outer s1 HZ E scope f c').Ok := by
    refine ⟨e0.mod, L.kind, rfl, rfl, Nat.le_refl _, fun y z c q1 q2 => I.ok.inj y z c (down q1) (down q2), fun y q => ?_, fun y c z => absurd (show false = true from z) Bool.false_ne_true, fun _ => hd, Around.frames_deeper e0.frames, .inr ⟨rfl, rfl⟩, fun b z => (noE b z).elim, e0.bs, e0.bsz, fun b _ _ => noE b, fun b z => (noE b z).elim, e0.funs, e0.frf⟩
    rcases (show scope.names.lookup y = some .cell ∨ scope.names.lookup y = some .free from q) with z | z
    · exact absurd rfl (L.own _ (PySem.mem_of_lookup z)).1
    · exact up z
  refine ⟨okk, rfl, e0.bare, Un.kept kp, ⟨m, hns, fun i y v q1 q2 q3 => ?_⟩, fun y c q => (I.cell y c (down q)).elim fun v z => ⟨v, cellOn (I.freeC y c (down q)) z⟩, e0.hok.fresh (Nat.le_refl _), fun y c q => ?_, fun q z => (List.not_mem_nil (show q ∈ ([] : List (Addr × Obj)) from z)).elim, e0.hok.kept kp, I.len⟩
  · rcases (show Vis scope y from q3) with z | z | z
    · exact absurd (List.mem_of_getElem? (show X.N[i]? = some y from q1)) ((L.own _ (PySem.mem_of_lookup z)).2 rfl)
    · exact absurd rfl (L.own _ (PySem.mem_of_lookup z)).1
    · obtain ⟨m0, _, look⟩ := I.loc
      have vis : X.env.scope.names.lookup y = some .cell ∨ X.env.scope.names.lookup y = some .free := L.free _ (PySem.mem_of_lookup z) rfl
      obtain ⟨u, r, q⟩ := look i y v q1 q2 (.inr vis)
      obtain ⟨c, hc⟩ := up z
      refine ⟨u, r, .inr ⟨.inr z, c, hc, ?_⟩⟩
      rcases q with ⟨k, _⟩ | ⟨_, c2, k, hcell⟩
      · have k' : X.env.scope.names.lookup y = some .local := k
        rcases vis with w | w <;> (rw [w] at k'; cases k')
      · rw [down hc] at k
        cases k
        exact cellOn (I.freeC y _ (down hc)) hcell
  · obtain ⟨v, ob, ho, _⟩ := I.cell y c (down q)
    exact un.free c ob ho (I.freeC y c (down q)) List.not_mem_nil
/-- x() within a def that got a lambda made in X -/
theorem lam_act {CXg : CXT} {Eg : XK} {Ng : List Str} {qg : Str} {sg : Scope} {g f c' : Addr} {cdg pm ct dv : Value} {pr : Arguments} {o : Option Str} {bd : Expr} {scope : Scope} {k i : Nat} {a : Str} {pn : List (Addr × Obj)} {xe : Value → Shared → Prop} {W : WX} {E : XK} {tb : TE} {p1 p2 : Pos}
    (I : Inv X pins σ H s) (hp : LamPar pr o) (L : LamSc X.N X.env.scope scope o) (hf : s.heap.get? f = some (lamO (X.env.qual ++ ("<lambda>" : Str)) pr bd scope (cloFrom X.env.cells scope.names []) pm (.ref c') ct dv)) (hfn : H f = none) (hfr : f ∉ frs X.stack) (hdv : DvOk o dv s.heap H (frs X.stack))
    (tk : Takes ((cxOf CXg X.prog X.w X.K X.mg X.base Ng qg sg g cdg X.A X.stack s H Eg).tr pn xe) W) (hr : Room (k + 1) (X.A.deeper (envOfC qg sg s.heap.objs.size g cdg)))
    (hbody : ∀ (s1 : Shared) (HZ : Hp), Room k ((X.A.deeper (envOfC qg sg s.heap.objs.size g cdg)).deeper (LamX.lamEnv X scope s1.heap.objs.size f c')) → PE (LamX.lamCx X (X.A.deeper (envOfC qg sg s.heap.objs.size g cdg)) (envOfC qg sg s.heap.objs.size g cdg :: X.stack) s1 HZ E scope f c') bd tb)
    (hN : Ng[i]? = some a) (hv : Vis sg a) (hd : (a == ("__debug__" : Str)) = false) (hcd : (a == ("__classdict__" : Str)) = false) :
    PE ((cxOf CXg X.prog X.w X.K X.mg X.base Ng qg sg g cdg X.A X.stack s H Eg).tr pn xe) (.Call (.Name a p1) [] [] p2)
      (fun σZ HZ Q => (∀ cls d H', E cls d H' → W cls d σZ H') ∧ σZ[i]? = some (some (.ref f)) ∧ HZ c' = some (LamX.CodeO c' (X.env.qual ++ ("<lambda>" : Str))) ∧ tb σ HZ Q) := by
  refine ⟨fun pinsZ sZ σZ HZ Q IZ ⟨hW, hs, hc, ht⟩ => ?_⟩
  refine wpAny_Call_Name_kw (thn ((pe_var (pos := p1) (i := i) hN hv hd hcd).run pinsZ sZ σZ HZ (fun v H1 => v = .ref f ∧ H1 = HZ) IZ ⟨_, hs, rfl, rfl⟩) fun u s1 ⟨v, H1, J, rv, e1, e2⟩ => ?_)
  subst e1 e2
  obtain rfl : u = Value.ref f := rv
  have kp : ∀ {b : Addr} {ob : Obj}, s.heap.get? b = some ob → H b = none → b ∉ frs X.stack → s1.heap.get? b = some ob := fun {b ob} q n nf => J.base.keep b ob q n nf (show b ∉ ([] : List Addr) from List.not_mem_nil)
  have of1 := kp hf hfn hfr
  refine PySem.W.callWith_F0 ⟨_, _, _, _, of1⟩ ?_
  obtain ⟨⟨oc, vs, t, hoc, hdc, hvc⟩, _, _⟩ := J.hok c' _ hc
  have run : codeAny (model X.prog X.w) (X.A.deeper (envOfC qg sg s.heap.objs.size g cdg)) (.call (.ref f) ⟨[], []⟩) (CR (CX X.prog X.w) (envOfC qg sg s.heap.objs.size g cdg :: X.stack) X.prog X.w H1 s1 Q E) s1 := by
    refine PySem.W.kla_callFunE hr.depth of1 rfl L.co L.gen rfl ⟨c', oc, vs, t, rfl, hoc, hdc, hvc⟩ (dv_binds hp ?_ fun bs hbs => ?_)
    · cases o with
      | none => exact hdv
      | some y =>
        obtain ⟨td, w, e, q1, q2, q3⟩ := hdv
        exact ⟨td, w, e, kp q1 q2 q3⟩
    · refine wpAny_newFunctionEnv (fun y hy => (L.own y hy).1) (fun y hy => L.par _ (hbs y hy).symm) (fun h1 hns hsb => ⟨J.nolimit.fresh _ hsb, ?_⟩) L.kind
      have on : ∀ b ob, s1.heap.get? b = some ob → h1.get? b = some ob := fun b ob e => hsb.extBut b ob (Nat.ne_of_lt (Heap.lt_size e)) (Heap.get?_push_of_some _ e)
      have J2 := lam_in (E := E) (f := f) (c' := c') (tk := s1.toks + bs.length) I L J.env0 hr.hd J.base hns on
      refine PySem.W.kla_codeExpr (wpAny_mono ((hbody s1 H1 (hr.deeper _)).run [] _ _ H1 Q J2 ht) (fun w s' ⟨x, H', J', rx, q⟩ => ?_) fun e s' q => q)
      exact ⟨x, H', J'.os, J'.bare, J'.base, J'.hok, rx, q⟩
  refine wpAny_call (codeAny_mono run fun r s' q => ?_)
  rcases r with e | fl
  · exact tk e s' (XE.of_call J hW q)
  · cases fl <;> first | exact J.after q | exact False.elim q
end
end L2.LC

set_option maxHeartbeats 2000000
/-! LC: the program's errors: isinstance of one that was caught, its field. -/
namespace L2.LC
open PySem PySem.Spec PyProof.Rows
/-- what the written part says of an error's class -/
def errCB (K : PySem.W.Frag) (C : Addr) (r : ErrRow) : Bool :=
  xfB K C && (PySem.W.clsIn K C).isSome && decide (PySem.W.findIn K (.ref C) "__class__" = some (some (.builtin "object.__class__"))) && decide (PySem.W.specialIn K (.builtin "object.__class__") "__get__" = some (some (.builtin "getset_descriptor.__get__"))) &&
    decide (PySem.W.takesIn K (.builtin "object.__class__") = some true) && decide (PySem.W.mroIn K C (.type "object") = some true) && (match r.fld with | some f => decide (PySem.W.findIn K (.ref C) f = some none) | none => true)
structure ErrC (K : PySem.W.Frag) (C : Addr) (r : ErrRow) : Prop where
  xf : XfC K C
  cl : (PySem.W.clsIn K C).isSome = true
  ca : PySem.W.findIn K (.ref C) "__class__" = some (some (.builtin "object.__class__"))
  cg : PySem.W.specialIn K (.builtin "object.__class__") "__get__" = some (some (.builtin "getset_descriptor.__get__"))
  ct : PySem.W.takesIn K (.builtin "object.__class__") = some true
  mo : PySem.W.mroIn K C (.type "object") = some true
  no : ∀ f, r.fld = some f → PySem.W.findIn K (.ref C) f = some none
theorem errC_of {K : PySem.W.Frag} {C : Addr} {r : ErrRow} (h : errCB K C r = true) : ErrC K C r := by
  unfold errCB at h
  simp only [Bool.and_eq_true, decide_eq_true_eq] at h
  obtain ⟨⟨⟨⟨⟨⟨h1, h2⟩, h3⟩, h4⟩, h5⟩, h6⟩, h7⟩ := h
  exact ⟨xfB_ok h1, h2, h3, h4, h5, h6, fun f e => by rw [e] at h7; exact of_decide_eq_true h7⟩
/-- the errors that a law's own look catches -/
abbrev topErr (K : PySem.W.Frag) : List Value := [.ref (He.ga K "LiftError"), .ref (He.ga K "MissError"), .ref (He.ga K "TooMany")]
def errsB (K : PySem.W.Frag) : Bool := errRows.all fun r => errCB K (He.ga K r.cls) r && (errRows.all fun q => decide (PySem.W.kitOne K (.ref (He.ga K r.cls)) (.ref (He.ga K q.cls)) = some (decide (r.cls = q.cls)))) && decide (PySem.W.exmAny K (.ref (He.ga K r.cls)) (topErr K) = some true)
structure ErrOk (K : PySem.W.Frag) (mg : Str → Option Value) : Prop where
  at_ : ∀ r ∈ errRows, mg r.cls = some (.ref (He.ga K r.cls))
  c : ∀ r ∈ errRows, ErrC K (He.ga K r.cls) r
  kit : ∀ r ∈ errRows, ∀ q ∈ errRows, PySem.W.kitOne K (.ref (He.ga K r.cls)) (.ref (He.ga K q.cls)) = some (decide (r.cls = q.cls))
  exm : ∀ r ∈ errRows, PySem.W.exmAny K (.ref (He.ga K r.cls)) (topErr K) = some true
  top : mg "LiftError" = some (.ref (He.ga K "LiftError")) ∧ mg "MissError" = some (.ref (He.ga K "MissError")) ∧ mg "TooMany" = some (.ref (He.ga K "TooMany"))
theorem errRow_mem {c : Str} {r : ErrRow} (h : errRow c = some r) : r ∈ errRows ∧ r.cls = c := by
  unfold errRow at h
  exact ⟨List.mem_of_find?_eq_some h, by simpa using List.find?_some h⟩
section
variable {X : Cx} {C : Calls}
/-- an error as a value: its object -/
theorem exv_at {pins : List (Addr × Obj)} {σ : St} {H : Hp} {s : Shared} {Z : Addr → Prop} {μ : List Addr} {S : Hs} {x : Xn} {v : V} {u : Value} (E : ErrOk X.K X.mg) (I : Inv X pins σ H s) (rd : RelD X.kw Z μ S H (.exv x) v) (ru : RelV v u) :
    ∃ (a : Addr) (r : ErrRow) (oe : Obj) (vs : Array Value) (d : Option Addr), u = .ref a ∧ errRow x.cls = some r ∧ r ∈ errRows ∧ r.cls = x.cls ∧ s.heap.get? a = some oe ∧ Zc (.ref (He.ga X.K r.cls)) d oe ∧ oe.data = .fields vs ∧ RelX X.kw (Lv Z μ S) H x (.ref (He.ga X.K r.cls)) d := by
  obtain ⟨a, cls, d, rfl, n, h, rx⟩ := rd
  obtain ⟨em, r, er, _⟩ := id rx
  obtain ⟨m, ec⟩ := errRow_mem er
  have e2 : cls = .ref (He.ga X.K r.cls) := by
    have z := E.at_ r m
    rw [ec] at z
    have em' : X.mg x.cls = some cls := em
    rw [em'] at z
    rw [ec]
    exact Option.some.inj z
  subst e2
  obtain ⟨⟨oe, vs, h1, h2, h3⟩, _⟩ := I.hok a _ h
  cases ru
  exact ⟨a, r, oe, vs, d, rfl, er, m, ec, h1, h2, h3, rx⟩
theorem exv_inst {pins : List (Addr × Obj)} {σ : St} {H : Hp} {s : Shared} {L : Addr → Prop} {x : Xn} {a : Addr} {r : ErrRow} {oe : Obj} {vs : Array Value} {d : Option Addr} (I : Inv X pins σ H s) (er : errRow x.cls = some r) (h1 : s.heap.get? a = some oe) (h2 : Zc (.ref (He.ga X.K r.cls)) d oe) (h3 : oe.data = .fields vs)
    (rx : RelX X.kw L H x (.ref (He.ga X.K r.cls)) d) : ∃ od, PySem.W.InstAt s.heap a oe (He.ga X.K r.cls) od ∧ ∀ f, r.fld = some f → ∃ o w u, od = some o ∧ PySem.W.lookIn f o = some (some u) ∧ RelV w u ∧ Rp X.K H L w x.fld := by
  obtain ⟨oc, odd, odt, osl⟩ := oe
  obtain ⟨e1, e2⟩ := h2
  dsimp only at e1 e2 h3
  subst e1 e2 h3
  obtain ⟨_, r', er', z⟩ := rx
  rw [er] at er'
  cases er'
  cases hf : r.fld with
  | none =>
    rw [hf] at z
    subst z
    exact ⟨none, ⟨h1, rfl, rfl, trivial⟩, fun f e => nomatch e⟩
  | some f =>
    rw [hf] at z
    obtain ⟨dd, w, rfl, e2, _, rp⟩ := z
    obtain ⟨mA, hns, hr⟩ := (show ObjOk X.prog X.w H s.heap dd (.xd [(f, w)]) from I.hok dd _ e2)
    obtain ⟨od, ho, hl⟩ := lookIn_ns hns
    refine ⟨some od, ⟨h1, rfl, rfl, ho⟩, fun f' e => ?_⟩
    cases e
    obtain ⟨u, hu, ru⟩ := RelO.some_of (v := w) (o := mA f) (by have := hr f; simpa [List.lookup] using this)
    exact ⟨od, w, u, rfl, by rw [hl, hu], ru, rp⟩
theorem c_isx (E : ErrOk X.K X.mg) {c : Str} {q : ErrRow} (hq : q ∈ errRows) (hc : q.cls = c) : CallR X (.builtin "isinstance") (fun xs H Q => ∃ v x Z μ S, xs = [v, .ref (He.ga X.K c)] ∧ RelD X.kw Z μ S H (.exv x) v ∧ Q (.bl (decide (x.cls = c))) H) := by
  intro pins s σ H xs us Q I rx h
  obtain ⟨v, x, Z, μ, S, rfl, rd, q2⟩ := h
  cases rx with
  | cons r1 r2 =>
    cases r2 with
    | cons r3 r4 =>
      cases r4
      cases r3
      obtain ⟨a, r, oe, vs, d, rfl, er, m, ec, h1, h2, h3, rx⟩ := exv_at E I rd r1
      have T := E.c r m
      have kit := E.kit r m q hq
      rw [hc] at kit
      obtain ⟨od, J, _⟩ := exv_inst I er h1 h2 h3 rx
      exact PySem.W.kia_one (PySem.W.kitx_exc T.cl T.xf.ga T.xf.gg T.xf.exC T.ca T.cg T.ct T.mo) I.kIn J kit (fun z => nomatch z) fun tk => ⟨.bl _, H, I.kept (t' := tk) fun _ _ z => z, rfl, by rw [ec]; exact q2⟩
theorem sE_isx (E : ErrOk X.K X.mg) {c : Str} {q : ErrRow} {p pt pos : Pos} {e : Expr} {ce : CE} (hq : errRow c = some q) (hg : Gl X "isinstance") (hm : X.mg "isinstance" = none) (hv : bootBuiltins "isinstance" = some (.builtin "isinstance")) (hg2 : Gl X c) (hd2 : (c == ("__debug__" : Str)) = false)
    (he : PE X e (tE X.kw (evE C ce))) (hs : notStar e = true) : PE X (.Call (.Name "isinstance" p) [e, .Name c pt] [] pos) (tE X.kw (evE C (.isx c ce))) := by
  obtain ⟨m, ec⟩ := errRow_mem hq
  have hm2 := E.at_ q m
  rw [ec] at hm2
  refine PE_wk (pe_callB (c_isx E m ec) hg hm hv (pa_cons he (pa_cons (pe_glob (v := .ref (He.ga X.K c)) hg2 hm2 rfl hd2) pa_nil) (star_cons hs)) (by decide) (by decide) (star_cons hs) (back_any (by rfl))) fun σ H Q ⟨Z, μ, ρ, S, rh, re, o⟩ => ?_
  simp only [evE] at o
  refine ⟨Z, μ, ρ, S, rh, re, o.bind fun d S1 v μ1 H1 _ l1 rh1 r1 o1 => ?_⟩
  cases d with
  | exv x => exact ⟨v, x, Z, μ1, S1, rfl, r1, o1.ok rh1 (Rp.bl _)⟩
  | _ => exact o1.elim
/-- err.f -/
theorem sE_fld (E : ErrOk X.K X.mg) {f : Str} {e : Expr} {ce : CE} {pos : Pos} (he : PE X e (tE X.kw (evE C ce))) (hb : attributeBase e f X.env (eval e X.env) = eval e X.env) : PE X (.Attribute e f pos) (tE X.kw (evE C (.fld f ce))) := by
  refine ⟨fun pins s σ H Q I ⟨Z, μ, ρ, S, rh, re, o⟩ => ?_⟩
  simp only [evE] at o
  refine attr_of hb (thn (he.run pins s σ H (fun v H1 => ∃ x r Z μ1 S1, RelD X.kw Z μ1 S1 H1 (.exv x) v ∧ errRow x.cls = some r ∧ r.fld = some f ∧ ∀ w, Rp X.K H1 (Lv Z μ1 S1) w x.fld → Q w H1) I ⟨Z, μ, ρ, S, rh, re, o.bind fun d S1 v μ1 H1 _ l1 rh1 r1 o1 => ?_⟩) fun u s1 ⟨v, H1, I1, rv, x, r, Z, μ1, S1, r1, er, hf, q⟩ => ?_)
  · cases d with
    | exv x =>
      simp only at o1
      cases er : errRow x.cls with
      | none => rw [er] at o1; exact o1.elim
      | some r =>
        rw [er] at o1
        simp only at o1
        split at o1
        · rename_i hf
          exact ⟨x, r, Z, μ1, S1, r1, er, hf, fun w rw => o1.ok rh1 rw⟩
        · exact o1.elim
    | _ => exact o1.elim
  · obtain ⟨a, r', oe, vs, d, rfl, er', m, ec, h1, h2, h3, rx⟩ := exv_at E I1 r1 rv
    rw [er] at er'
    cases er'
    obtain ⟨od, J, hl⟩ := exv_inst I1 er h1 h2 h3 rx
    obtain ⟨ob, w, u, rfl, e2, ru, rp⟩ := hl f hf
    have T := E.c r m
    exact HandSPX.exc_get I1.kIn J T.xf.ga T.xf.gg T.xf.exC (PySem.W.findObj_own T.xf.hdC (T.no f hf) rfl e2) (handed_of ru) ⟨w, H1, I1.tok _, ru, q w rp⟩
end
end L2.LC

set_option maxHeartbeats 4000000
/-! LC: errors are made: an own __init__ that calls the one above and keeps one field. -/
namespace L2.LC
open PySem PySem.Spec PyProof.Rows
/-- own classes, then these -/
def refsTo (tl : List Value) : List Value → Bool
  | .ref _ :: r => refsTo tl r
  | l => l == tl
theorem refsTo_cases {tl : List Value} {l : List Value} (h : refsTo tl l = true) : (∃ c r, l = .ref c :: r ∧ refsTo tl r = true) ∨ l = tl := by
  unfold refsTo at h
  split at h
  · exact .inl ⟨_, _, rfl, h⟩
  · exact .inr (beq_iff_eq.mp h)
/-- what is known of a built-in class of errors -/
structure Bs (B newId initId : String) (tl : List Value) : Prop where
  F : ExcBaseFacts B newId initId tl
  pass : ∀ self : Value, refuseLoop self "__setattr__" tl = pure ()
  ob : tl.contains (.type "object") = true
  ne : tl ≠ []
abbrev tlV : List Value := [.type "ValueError", .type "Exception", .type "BaseException", .type "object"]
abbrev tlO : List Value := [.type "OverflowError", .type "ArithmeticError", .type "Exception", .type "BaseException", .type "object"]
abbrev tlL : List Value := [.type "LookupError", .type "Exception", .type "BaseException", .type "object"]
theorem bsV : Bs "ValueError" "ValueError.__new__" "ValueError.__init__" tlV := ⟨PySem.F.excBase_ValueError, fun self => by kernel_rfl, by decide, by decide⟩
theorem bsO : Bs "OverflowError" "OverflowError.__new__" "OverflowError.__init__" tlO := ⟨PySem.F.excBase_OverflowError, fun self => by kernel_rfl, by decide, by decide⟩
theorem bsL : Bs "LookupError" "LookupError.__new__" "LookupError.__init__" tlL := ⟨PySem.F.excBase_LookupError, fun self => by kernel_rfl, by decide, by decide⟩
section
variable {B newId initId : String} {tl : List Value}
theorem Bs.passes (b : Bs B newId initId tl) (self : Value) : ∀ l, refsTo tl l = true → refuseLoop self "__setattr__" l = pure ()
  | [], h => by
    rcases refsTo_cases h with ⟨c, r, e, _⟩ | e
    · cases e
    · exact absurd e.symm b.ne
  | v :: l, h => by
    rcases refsTo_cases h with ⟨c, r, e, q⟩ | e
    · cases e
      rw [refuseLoop_ref]
      exact Bs.passes b self l q
    · rw [e]; exact b.pass self
theorem Bs.has (b : Bs B newId initId tl) (Y : String) : ∀ l, refsTo tl l = true → l.contains (.type Y) = tl.contains (.type Y)
  | [], h => by
    rcases refsTo_cases h with ⟨c, r, e, _⟩ | e
    · cases e
    · exact absurd e.symm b.ne
  | v :: l, h => by
    rcases refsTo_cases h with ⟨c, r, e, q⟩ | e
    · cases e
      rw [List.contains_cons, Bs.has b Y l q]
      rfl
    · rw [e]
theorem Bs.nemp (b : Bs B newId initId tl) {l : List Value} (h : refsTo tl l = true) : l.isEmpty = false := by
  cases l with
  | nil =>
    rcases refsTo_cases h with ⟨c, r, e, _⟩ | e
    · cases e
    · exact absurd e.symm b.ne
  | cons _ _ => rfl
/-- what the written part says of an own class with an own __init__ -/
structure OexB (K : PySem.W.Frag) (C : Addr) (B newId initId : String) (tl : List Value) : Prop where
  bs : Bs B newId initId tl
  cls : ∃ nm q N bs bm sn sub ab col dd k0 k1 k2 k3 k5, K.lookup C = some (excClassObj nm q C N bs bm true sn sub ab col dd k0 k1 k2 k3 k5 newId) ∧ refsTo tl bm = true
  sa : PySem.W.findIn K (.ref C) "__setattr__" = some (some (.builtin "object.__setattr__"))
  exC : PySem.W.subIn K (.ref C) (.type "BaseException") = some true
  tyC : PySem.W.typeIn K (.ref C) = some (.type "type")
  kC : PySem.W.keepIn K (.ref C) = true
def oexB (K : PySem.W.Frag) (C : Addr) (newId : String) (tl : List Value) : Bool :=
  (match K.lookup C with
    | some ⟨.type ty, _, .cls cd, ⟨[_, _, _, _, some (.builtin n), _]⟩⟩ => decide (ty = "type") && decide (n = newId) && cd.hasDict && !cd.hasDel && (match cd.mro with | .ref C' :: bm => decide (C' = C) && refsTo tl bm | _ => false)
    | _ => false) && decide (PySem.W.findIn K (.ref C) "__setattr__" = some (some (.builtin "object.__setattr__"))) && decide (PySem.W.subIn K (.ref C) (.type "BaseException") = some true) && decide (PySem.W.typeIn K (.ref C) = some (.type "type")) && PySem.W.keepIn K (.ref C)
theorem oexB_of {K : PySem.W.Frag} {C : Addr} (b : Bs B newId initId tl) (h : oexB K C newId tl = true) : OexB K C B newId initId tl := by
  unfold oexB at h
  simp only [Bool.and_eq_true, decide_eq_true_eq] at h
  obtain ⟨⟨⟨⟨h1, h2⟩, h3⟩, h4⟩, h5⟩ := h
  refine ⟨b, ?_, h2, h3, h4, h5⟩
  split at h1
  · rename_i ty dd cd k0 k1 k2 k3 n k5 hl
    simp only [Bool.and_eq_true, decide_eq_true_eq, Bool.not_eq_true'] at h1
    obtain ⟨⟨⟨⟨q1, q2⟩, q3⟩, q4⟩, q5⟩ := h1
    obtain ⟨nm, bs, mro, ns, qn, hd, sn, sb, ab, col, del⟩ := cd
    dsimp only at q3 q4 q5
    subst q1 q2 q3 q4
    split at q5
    · rename_i C' bm
      simp only [Bool.and_eq_true, decide_eq_true_eq] at q5
      obtain ⟨rfl, q6⟩ := q5
      exact ⟨nm, qn, ns, bs, bm, sn, sb, ab, col, dd, k0, k1, k2, k3, k5, hl, q6⟩
    · cases q5
  · cases h1
end
/-! ### the field is kept -/
section
open Builtin Builtin.ObjectAttr
variable {prog : Program} {w : World} {A : Around} {R : Result → Shared → Prop} {hp : Heap} {g : Array GenState} {dr : Drawn} {t : Nat} {os : OsState} {B newId initId : String} {tl : List Value}
theorem osaB {K : PySem.W.Frag} {name : Str} {tk : Tok} {v : Value} {x C : Addr} {fv : Array Value} {cd : ClassData} (b : Bs B newId initId tl) (KX : K.In hp) (hx : hp.get? x = some { cls := .ref C, data := .fields fv }) (hcd : PySem.W.clsIn K C = some cd) (hm : refsTo tl cd.mro = true) (hh : cd.hasDict = true)
    (ha : PySem.W.findIn K (.ref C) name = some none)
    (fin : ∀ h' tk' dx, (∀ a o, a ≠ x → hp.get? a = some o → h'.get? a = some o) → hp.objs.size ≤ dx → dx ≠ x → h'.get? x = some { cls := .ref C, dict := some dx, data := .fields fv } → h'.Ns1 dx (fun y => if y = name then some v else none) → R (.ok (.ret .none)) ⟨h', g, dr, tk', os⟩) :
    codeAny (model prog w) A (.call (.builtin "object.__setattr__") ⟨[.ref x, .str name tk, v], []⟩) R ⟨hp, g, dr, t, os⟩ := by
  have IA : PySem.W.InstAt hp x { cls := .ref C, data := .fields fv } C none := ⟨hx, rfl, rfl, trivial⟩
  have nx : x ≠ hp.objs.size := Nat.ne_of_lt (Heap.lt_size hx)
  have isob : PySem.W.Looks (model prog w) hp (isInstance (.ref x) (.type "object")) true := IA.type.andThen (PySem.W.looks_mroIn KX (by unfold PySem.W.mroIn; rw [hcd, Option.bind_some, if_neg (by rw [b.nemp hm]; decide), b.has "object" _ hm, b.ob]))
  have ofC : PySem.W.Looks (model prog w) hp (classData C) cd := PySem.W.looks_clsIn KX hcd
  have mroC : PySem.W.Looks (model prog w) hp (mroOf (.ref C)) cd.mro := ofC.andThen .now
  have tk0 : PySem.W.Looks (model prog w) hp (storeTaker? none) none := .now
  refine codeAny_call_builtin F.store_object.slot.plain F.store_object.entry (@PySem.W.check_slot (model prog w) _ _ ⟨hp, g, dr, t, os⟩ "object.__setattr__" "object" "__setattr__" (.ref x) [.str name tk, v] [] _ F.store_object.kind F.store_object.split isob (F.store_object.args (.ref x) (.str name tk) v) ?_)
  rw [PySem.W.osa_eq, refuse_eq]
  refine wpAny_bind (wpAny_bind (IA.type.at (wpAny_bind (mroC.at ?_))))
  rw [b.passes _ _ hm]
  refine wpAny_pure (wpAny_bind (IA.type.at (wpAny_bind ((PySem.W.looks_findIn KX ha).at (wpAny_bind (tk0.at ?_))))))
  show wpAny _ _ (storeInOwnDict (.ref x) (.ref C) (.str name tk) name v false) _ _ _
  obtain ⟨c1, c2, c3, c4, c5, c6, c7, c8, c9, c10, c11⟩ := cd
  dsimp only at hh
  subst hh
  unfold storeInOwnDict ownDictForStores
  repeat (first | with_reducible refine HandSPX.store_in_new ?_ ?_ | with_reducible refine wpAny_loadPart_at hx ?_ | with_reducible refine ofC.at ?_ | wp_step)
  · exact ⟨_, #[], _, (Heap.get?_update_ne _ _ _ _ nx.symm).trans (Heap.get?_push_at rfl rfl), rfl, fun e he => absurd he (by simp), fun _ => rfl⟩
  · intro h' tk' hn hs
    refine fin h' tk' hp.objs.size (fun a o na ho => (hs.2 a (Nat.ne_of_lt (Heap.lt_size ho))).trans ((Heap.get?_update_ne _ _ _ _ na).trans (Heap.get?_push_of_some _ ho))) (Nat.le_refl _) nx.symm ?_ hn
    exact (hs.2 x nx).trans (Heap.get?_update_self _ (Heap.get?_push_of_some _ hx) rfl)
end
section
variable {X : Cx} {pins : List (Addr × Obj)} {σ : St} {H : Hp} {s : Shared} {a C : Addr} {f : Str} {y : V} {u : Value} {A : Around} {E : Value → Shared → Prop} {B newId initId : String} {tl : List Value}
/-- self.f = y, in an __init__ -/
theorem keepB {Q : Unit → Shared → Prop} (T : OexB X.K C B newId initId tl) (I : Inv X pins σ H s) (e : H a = some (exo a C none)) (hno : PySem.W.findIn X.K (.ref C) f = some none) (ry : RelV y u)
    (fin : ∀ dx s', H dx = none → dx ≠ a → Inv X pins σ (upd (upd H dx (exd dx [(f, y)])) a (exo a C (some dx))) s' → Q () s') : wpAny (model X.prog X.w) A (setAttr (.ref a) f u) Q E s := by
  obtain ⟨nm, q, N, bs, bm, sn, sub, ab, col, dd, k0, k1, k2, k3, k5, hC, hbm⟩ := T.cls
  have hcl : PySem.W.clsIn X.K C = some { name := nm, bases := bs, mro := .ref C :: bm, ns := N, qualname := q, hasDict := true, slotNames := sn, subclasses := sub, abstract := ab, collection := col, hasDel := false } := by
    unfold PySem.W.clsIn
    rw [hC]
  obtain ⟨t1, ho⟩ := exo_at I.hok e
  obtain ⟨hp, gg, dr, tt, os⟩ := s
  refine PySem.W.set_plain I.kIn (ox := { cls := .ref C, dict := none, data := .fields #[.ref t1, .none, .none, .none, .bool false, .none] }) (od := none) ⟨ho, rfl, rfl, trivial⟩ T.sa (osaB T.bs I.kIn ho hcl hbm rfl hno fun h' tk' dx k dn dne hx hn => ?_)
  have hnd : H dx = none := I.hok.fresh dn
  have old : ∀ {b : Addr} {o : Obj}, hp.get? b = some o → b ≠ dx := fun q => Nat.ne_of_lt (Nat.lt_of_lt_of_le (Heap.lt_size q) dn)
  have nota : ∀ {b : Addr}, H b = none → b ≠ a := fun n z => by rw [z, e] at n; cases n
  have at_ : ∀ b, b ≠ a → b ≠ dx → upd (upd H dx (exd dx [(f, y)])) a (exo a C (some dx)) b = H b := fun b n1 n2 => by rw [upd_ne n1, upd_ne n2]
  refine fin dx _ hnd dne (I.un (t' := tk') ⟨fun b o q n _ _ => k b o (nota n) q, fun b o q n _ _ => ⟨o.slots, k b o (nota n) q⟩, fun b o q n _ => by rw [at_ b (nota n) (old q)]; exact n, fun b o q _ => ?_, fun b xs q => by rw [at_ b (at_ne e q exo_tup) (ne_of_none q hnd)]; exact q, fun b o v q => by rw [at_ b (at_ne e q exo_frz) (ne_of_none q hnd)]; exact q,
    fun b ps q => ⟨#[], by rw [at_ b (at_ne e q exo_tbl) (ne_of_none q hnd), q]; simp⟩⟩ fun b o q => ?_)
  · by_cases hb : b = a
    · subst hb; exact ⟨_, hx⟩
    · exact ⟨o, k b o hb q⟩
  · by_cases hb : b = a
    · subst hb
      rw [upd_same] at q
      cases q
      exact exo_ok hx
    · by_cases hd : b = dx
      · subst hd
        rw [upd_ne hb, upd_same] at q
        cases q
        exact exd_ok hn (relO_put (fs := []) ry fun _ => trivial)
      · rw [at_ b hb hd] at q
        refine (I.hok b o q).stay (fun c v hc z => k c v ?_ z) (fun c hc => by rw [at_ c (at_ne e hc exo_own) (ne_of_none hc hnd)]; exact hc) fun c xs hc => by rw [at_ c (at_ne e hc exo_tup) (ne_of_none hc hnd)]; exact hc
        rcases hc with hc | hc
        · rw [hc]; exact hb
        · exact at_ne e hc exo_own
/-- the __init__ above it -/
theorem initB {us : List Value} {Q : Value → Shared → Prop} (T : OexB X.K C B newId initId tl) (I : Inv X pins σ H s) (e : H a = some (exo a C none)) (hl : us.length ≤ sizeLine) (fin : ∀ s', Inv X pins σ H s' → Q .none s') :
    wpAny (model X.prog X.w) A (call (.builtin initId) (.ref a :: us)) Q E s := by
  obtain ⟨nm, q, N, bs, bm, sn, sub, ab, col, dd, k0, k1, k2, k3, k5, hC, hbm⟩ := T.cls
  obtain ⟨t1, ho⟩ := exo_at I.hok e
  obtain ⟨hp, gg, dr, tt, os⟩ := s
  refine wpAny_call (HandSPX.init_base T.bs.F (fun Y => T.bs.has Y bm hbm) (I.kIn _ _ hC) ho hl fun h' t2 k hx => ?_)
  have J := I.write (t' := tt) (x := a) (e := a) (o := exo a C none) (by rw [e]; trivial) (.inl rfl) k ⟨_, hx⟩ (exo_ok hx)
  rw [show upd H a (exo a C none) = H from funext fun b => by
    by_cases hb : b = a
    · rw [hb, upd_same, e]
    · rw [upd_ne hb]] at J
  exact fin _ J
end
end L2.LC

set_option maxHeartbeats 4000000
/-! LC: an error's own __init__ as a def; raise. -/
namespace L2.LC
open PySem PySem.Spec PyProof.Rows
/-- the class above by its name: n.__init__ is the built-in one -/
def UpOk (K : PySem.W.Frag) (mg : Str → Option Value) (n : Str) (B initId : String) : Prop :=
  (∃ L, mg n = some (.ref L) ∧ PySem.W.specialIn K (.ref L) "__getattribute__" = some (some (.builtin "type.__getattribute__")) ∧ PySem.W.typeIn K (.ref L) = some (.type "type") ∧ PySem.W.readsIn K L (.type "type") = true ∧ PySem.W.findCls K (.ref L) (.type "type") "__init__" = some (.val (.builtin initId))) ∨
    (mg n = none ∧ bootBuiltins n = some (.type B) ∧ n ≠ "__name__" ∧ typeOf (.type B) = pure (.type "type") ∧ Manifest.isStub B = false ∧ PySem.W.findCls K (.type B) (.type "type") "__init__" = some (.val (.builtin initId)))
theorem callAttr_eq {o : Expr} {name : Str} {apos pos : Pos} {args : List Expr} {env : Env} (hb : attributeBase o name env (eval o env) = eval o env) (hf : methodCallForm (args.length + ([] : List Keyword).length) (backTo pos (starEach args env)) (backToKw pos (keywordEach [] env)) = true) (hl : (apos.endLine == pos.line) = true) :
    eval (.Call (.Attribute o name apos) args [] pos) env = (do
      let ov ← eval o env
      standAt apos.atName
      let (f, first) ← holding [ov] (getMethod ov name (do return (← importBound o env).getD true))
      callWith pos f first (backTo pos (starEach args env)) (backToKw pos (keywordEach [] env))) := by
  rw [arm_eval_Call, hb]
  congr 1
  funext ov
  congr 1
  funext _
  unfold methodCall calleeOf
  rw [hf]
  simp only [if_true, methodCallPos, hl, Bool.not_true, Bool.false_or, pure_bind]
section
variable {X : Cx} {B newId initId : String} {tl : List Value} {C : Addr}
/-- n.__init__(self, ..) -/
def tUp (C : Addr) (ta : TA) : TE := fun σ H Q => ta σ H fun vs H1 => ∃ (a : Addr) (ws : List V), vs = .ref a :: ws ∧ ws.length ≤ 1000 ∧ H1 a = some (exo a C none) ∧ Q .non H1
theorem pe_up {n : Str} {e : Expr} {es : List Expr} {ta : TA} {p1 p2 pos : Pos} {pl : Sem Bool} (T : OexB X.K C B newId initId tl) (hu : UpOk X.K X.mg n B initId) (hi : PySem.W.handedIn (.builtin initId) = true) (hg : Gl X n) (hdb : (n == ("__debug__" : Str)) = false) (ha : PA X (e :: es) ta)
    (hc : eval (.Call (.Attribute (.Name n p1) "__init__" p2) (e :: es) [] pos) X.env = (do
      let ov ← eval (.Name n p1) X.env
      standAt p2.atName
      let (f, first) ← holding [ov] (getMethod ov "__init__" pl)
      callWith pos f first (backTo pos (starEach (e :: es) X.env)) (backToKw pos (keywordEach [] X.env))))
    (he : starEach (e :: es) X.env = (false, eval e X.env) :: starEach es X.env) (hpl : (backTo pos (starEach es X.env)).any (·.1) = false) :
    PE X (.Call (.Attribute (.Name n p1) "__init__" p2) (e :: es) [] pos) (tUp C ta) := by
  refine ⟨fun pins s σ H Q I h => ?_⟩
  obtain ⟨m, fr⟩ := I.fr
  have fin : ∀ tk, wpAny (model X.prog X.w) X.A (callWith pos (Value.builtin initId) [] (backTo pos (starEach (e :: es) X.env)) []) (EP X pins σ Q) X.xe { s with toks := tk } := fun tk => by
    refine PyProof.Rows.callWith_method1 (thn (ha.run pos pins _ σ H _ (I.tok tk) h) fun us s1 ⟨vs, H1, I1, r1, a, ws, ev, hl, ea, q⟩ => ?_) he hpl
    subst ev
    cases r1 with
    | @cons _ u0 _ ur ra rw' =>
      obtain rfl : u0 = Value.ref a := ra
      exact initB T I1 ea (by rw [← Paired.length rw', sizeLine_eq]; omega) fun s' J => ⟨.non, H1, J, rfl, q⟩
  rcases hu with ⟨L, h1, h2, h3, h4, h5⟩ | ⟨h1, h2, h3, h4, h5, h6⟩
  · exact PySem.W.methodCall_KW (ld_glob I hg h1 (PySem.W.method_of_cls fr I.ok.mod.kin h2 (PySem.W.cls_val fr I.ok.mod.kin h3 h4 h5 hi (fin _))) hdb) hc
  · exact PySem.W.methodCall_KW (ld_blt I hg h1 h2 (PySem.W.method_type fr I.ok.mod.kin h4 h5 h6 hi (fin _)) h3 hdb) hc
/-- self.f = e -/
def tKeep (K : PySem.W.Frag) (C : Addr) (f : Str) (to te : TE) : TS := fun D σ H => te σ H fun y H1 => to σ H1 fun x H2 => ∃ a : Addr, x = .ref a ∧ PySem.W.findIn K (.ref C) f = some none ∧ H2 a = some (exo a C none) ∧ ∀ dx, H2 dx = none → dx ≠ a → D.nx σ (upd (upd H2 dx (exd dx [(f, y)])) a (exo a C (some dx)))
theorem ps_keep {o e : Expr} {f : Str} {to te : TE} {p' pos : Pos} (T : OexB X.K C B newId initId tl) (ho : PE X o to) (he : PE X e te) (hs : swapsWith e (some (.Attribute o f p')) pos.line X.env = pure false) : PS X (.Assign [.Attribute o f p'] e pos) (tKeep X.K C f to te) := by
  refine ⟨fun pins s σ H D I h => plainObj_wpAny_Assign_Attribute (thn (he.run pins s σ H _ I h) fun v s1 ⟨y, H1, I1, r1, q1⟩ => thn (ho.run pins s1 σ H1 _ I1 q1) fun u s2 ⟨x, H2, I2, r2, a, ex, hno, ea, q⟩ => ?_) hs⟩
  subst ex
  obtain rfl : u = Value.ref a := r2
  exact keepB T I2 ea hno r1 fun dx s' n ne J => ⟨σ, _, J, q dx n ne⟩
end
/-- an __init__ that calls the one above and keeps its argument -/
def initBody (n f : Str) : List Stmt → Bool
  | [.Expr (.Call (.Attribute (.Name n' _) i pa) [.Name s1 _, .Constant (.str _) _ _] [] pc) _, .Assign [.Attribute (.Name s2 _) f1 _] (.Name f2 _) _] =>
    (pa.endLine == pc.line) && decide (n' = n) && decide (i = "__init__") && decide (s1 = "self") && decide (s2 = "self") && decide (f1 = f) && decide (f2 = f)
  | _ => false
def spInit (C : Addr) (f : Str) : Sp := fun vs H Q _ => ∃ (a : Addr) (v : V), vs = [.ref a, v] ∧ H a = some (exo a C none) ∧ ∀ dx, H dx = none → dx ≠ a → Q .non (upd (upd H dx (exd dx [(f, v)])) a (exo a C (some dx)))
theorem init_fn {P : Program} {w : World} {K : PySem.W.Frag} {mg : Str → Option Value} {base : Heap} {x qual : Str} {params : Arguments} {body : List Stmt} {scope : Scope} {dvs : List V} {kws : List (Str × V)} {fa : Addr} {fdt : FuncData} {n f : Str} {B newId initId : String} {tl : List Value} {C : Addr}
    (F : FunD K x qual params body scope dvs kws fa fdt) (Sc : FnScope ["self", f] ["self", f] scope) (hb : initBody n f body = true) (T : OexB K C B newId initId tl) (hu : UpOk K mg n B initId) (hi : PySem.W.handedIn (.builtin initId) = true) (hno : PySem.W.findIn K (.ref C) f = some none)
    (hg : scope.names.lookup n = some .globalImplicit) (hdn : (n == ("__debug__" : Str)) = false) (hdf : (f == ("__debug__" : Str)) = false) (hcf : (f == ("__classdict__" : Str)) = false) : FnOk P w K mg base CX0 1 fa fdt ["self", f] (spInit C f) := by
  refine F.ok (k := 0) Sc (fun vs H Q E ⟨a, v, e, _⟩ => by rw [e]; rfl) fun cdv A outer s H vs Q E hr h => ?_
  obtain ⟨a, v, rfl, ha, hq⟩ := h
  unfold initBody at hb
  split at hb
  · rename_i n' p1 i p2 s1 p3 m j p4 p5 p6 s2 p7 f1 p8 f2 p9 p10
    simp only [Bool.and_eq_true, decide_eq_true_eq] at hb
    obtain ⟨⟨⟨⟨⟨⟨hline, rfl⟩, rfl⟩, rfl⟩, rfl⟩, rfl⟩, rfl⟩ := hb
    have vis : ∀ y ∈ ([("self" : Str), f2] : List Str), Vis scope y := fun y hy => (Sc.par y hy).elim .inl fun q => .inr (.inl q)
    have v0 : PE (cxOf CX0 P w K mg base ["self", f2] qual scope fa cdv A outer s H E) (.Name "self" p3) (tVar 0) := pe_var rfl (vis _ (by simp)) (by decide) (by decide)
    have v1 : PE (cxOf CX0 P w K mg base ["self", f2] qual scope fa cdv A outer s H E) (.Name "self" p7) (tVar 0) := pe_var rfl (vis _ (by simp)) (by decide) (by decide)
    have v2 : PE (cxOf CX0 P w K mg base ["self", f2] qual scope fa cdv A outer s H E) (.Name f2 p9) (tVar 1) := pe_var rfl (vis _ (by simp)) hdf hcf
    refine ⟨_, pss_cons (ps_expr (pe_up (X := cxOf CX0 P w K mg base ["self", f2] qual scope fa cdv A outer s H E) T hu hi hg hdn (pa_cons v0 (pa_cons (pe_str (x := m)) pa_nil) (star_cons rfl)) (callAttr_eq rfl rfl hline) (star_cons rfl) (back_any (by rfl))) rfl) (pss_one (ps_keep T v1 v2 rfl)), ?_⟩
    refine ⟨_, rfl, ⟨a, [.str m], rfl, by simp, ha, ?_⟩⟩
    exact ⟨_, rfl, _, rfl, a, rfl, hno, ha, fun dx n1 n2 => hq dx n1 n2⟩
  · cases hb
section
variable {X : Cx} {B newId initId : String} {tl : List Value} {C : Addr}
/-- C(e), an error in the making, and the error -/
theorem pmk_B {x f : Str} {fI : Addr} {fd : FuncData} {e : Expr} {te : TE} {p pos : Pos} (T : OexB X.K C B newId initId tl) (iC : PySem.W.findIn X.K (.ref C) "__init__" = some (some (.ref fI))) (tI : PySem.W.typeIn X.K (.ref fI) = some (.type "function"))
    (F1 : FnOk X.prog X.w X.K X.mg X.base CX0 1 fI fd ["self", f] (spInit C f)) (hr : Room 2 X.A) (hb : Binds X.K fd ["self", f] []) (hg : Gl X x) (hm : X.mg x = some (.ref C)) (ha : PE X e te) (hs : notStar e = true)
    (hdb : (x == ("__debug__" : Str)) = false) : PMk X (.Call (.Name x p) [e] [] pos) (fun σ H Q => te σ H fun v H1 => ∀ dx, H1 dx = none → Q (.ref C) (some dx) (upd H1 dx (.xd [(f, v)]))) := by
  intro pins s σ H Q I h
  obtain ⟨nm, q, N, bs, bm, sn, sub, ab, col, dd, k0, k1, k2, k3, k5, hC, hbm⟩ := T.cls
  refine wpAny_Call_Name_kw (ld_glob I hg hm (PySem.W.callWith_K (h₀ := X.base) I.ok.mod.kin T.kC (thn ((pa_cons ha pa_nil (star_cons hs)).run pos pins s σ H (fun vs H1 => match vs with | [v] => ∀ dx, H1 dx = none → Q (.ref C) (some dx) (upd H1 dx (.xd [(f, v)])) | _ => False) I h) fun us s1 ⟨vs, H1, I1, r1, q1⟩ => ⟨I1.kIn, ?_⟩) (star_cons hs) (by rfl)) hdb)
  match vs, r1, q1 with
  | [v], .cons (b := u) ru .nil, q1 =>
    obtain ⟨hp, g, dr, tk, os⟩ := s1
    generalize ea : hp.objs.size + 1 = a
    have hsz : hp.objs.size ≤ a := by rw [← ea]; exact Nat.le_succ _
    have hn : H1 a = none := I1.hok.fresh hsz
    have kk : ∀ b o, hp.get? b = some o → ((hp.push (PySem.W.kdv_tup [u])).push (HandSPX.excO C hp.objs.size)).get? b = some o := fun b o e => Heap.get?_push_of_some _ (Heap.get?_push_of_some _ e)
    have hget : ((hp.push (PySem.W.kdv_tup [u])).push (HandSPX.excO C hp.objs.size)).get? a = some (HandSPX.excO C hp.objs.size) := by rw [← ea]; heap_get
    have I2 : Inv X pins σ (upd H1 a (exo a C none)) ⟨(hp.push (PySem.W.kdv_tup [u])).push (HandSPX.excO C hp.objs.size), g, dr, tk, os⟩ := I1.laid (t' := tk) kk hsz (exo_ok hget)
    have hsp : spInit C f [.ref a, v] (upd H1 a (exo a C none)) (fun w H2 => w = .non ∧ ∃ dx, H2 a = some (exo a C (some dx)) ∧ H2 dx = some (exd dx [(f, v)]) ∧ H1 dx = none ∧ Q (.ref C) (some dx) (upd (del H2 a) dx (.xd [(f, v)]))) E0 := by
      refine ⟨a, v, rfl, upd_same, fun dx n1 n2 => ⟨rfl, dx, upd_same, by rw [upd_ne n2, upd_same], ?_, ?_⟩⟩
      · rwa [upd_ne n2] at n1
      · rw [upd_ne n2] at n1
        have eH : upd (del (upd (upd (upd H1 a (exo a C none)) dx (exd dx [(f, v)])) a (exo a C (some dx))) a) dx (.xd [(f, v)]) = upd H1 dx (.xd [(f, v)]) := by
          funext b
          by_cases h1 : b = dx
          · rw [h1, upd_same, upd_same]
          · rw [upd_ne h1, upd_ne h1]
            by_cases h2 : b = a
            · rw [h2, del_same, hn]
            · rw [del_ne h2, upd_ne h2, upd_ne h1, upd_ne h2]
        rw [eH]
        exact q1 dx n1
    have run := F1.run (X.A.under (.builtin "type.__call__" ⟨.ref C :: [u], []⟩)) X.stack _ _ ⟨[Value.ref a, u], []⟩ [Value.ref a, u] _ _ E0 (hr.make C [u] []) (I2.env0.make C [u] []) (by simpa using hb _ [Value.ref a, u] I2.kIn rfl) (Paired.cons (a := V.ref a) rfl (Paired.cons ru .nil)) hsp
    rw [← ea] at run
    refine wpAny_call (HandSPX.call_own T.bs.F (fun Y => T.bs.has Y bm hbm) (I1.kIn _ _ hC) (PySem.W.looks_findIn I1.kIn iC) (fun self => PySem.W.bind_fn I1.kIn self tI) (by rw [sizeLine_eq]; simp) (codeAny_mono run fun r s' hq => ?_))
    cases r with
    | error er => exact False.elim hq
    | ok fl =>
      cases fl with
      | ret w =>
        obtain ⟨w', H2, os2, bare2, un2, hok2, rv, ev, d, e1, e2, hd1, q2⟩ := hq
        subst ev
        obtain ⟨h2, g2, d2, t2, os'⟩ := s'
        exact ⟨rv, mk_end (raises_own T.exC T.tyC) I1 (Nat.le_succ _) kk un2 hok2 os2 bare2 e1 e2 hd1 q2⟩
      | _ => exact False.elim hq
end
/-- an error of this row can be made and raised -/
def RaiseOk (P : Program) (w : World) (K : PySem.W.Frag) (mg : Str → Option Value) (base : Heap) (r : ErrRow) : Prop := match r.fld with
  | some f => ∃ (B newId initId : String) (tl : List Value) (fI : Addr) (fd : FuncData), OexB K (He.ga K r.cls) B newId initId tl ∧ PySem.W.findIn K (.ref (He.ga K r.cls)) "__init__" = some (some (.ref fI)) ∧ PySem.W.typeIn K (.ref fI) = some (.type "function") ∧
      FnOk P w K mg base CX0 1 fI fd ["self", f] (spInit (He.ga K r.cls) f) ∧ Binds K fd ["self", f] []
  | none => ∃ (B newId initId : String) (tl : List Value), ExcBaseFacts B newId initId tl ∧ PySem.W.excIn K (He.ga K r.cls) tl newId = true ∧ PySem.W.keepIn K (.ref (He.ga K r.cls)) = true ∧ PySem.W.subIn K (.ref (He.ga K r.cls)) (.type "BaseException") = some true ∧ PySem.W.typeIn K (.ref (He.ga K r.cls)) = some (.type "type")
section
variable {X : Cx} {C : Calls} {k : Nat}
theorem sS_rse {x f : Str} {r : ErrRow} {e : Expr} {ce : CE} {p pos pos' : Pos} (hc : X.calm = true) (hr : Room 2 X.A) (hm : X.mg x = some (.ref (He.ga X.K x))) (er : errRow x = some r) (hf : r.fld = some f) (R : RaiseOk X.prog X.w X.K X.mg X.base r) (hg : Gl X x) (hdb : (x == ("__debug__" : Str)) = false) (he : PE X e (tE X.kw (evE C ce))) (hs : notStar e = true) :
    PS X (.Raise (some (.Call (.Name x p) [e] [] pos)) none pos') (tF X.kw (evS C (.rse x ce))) := by
  unfold RaiseOk at R
  rw [hf] at R
  obtain ⟨B, newId, initId, tl, fI, fd, T, h1, h2, F1, hb⟩ := R
  obtain ⟨m, ec⟩ := errRow_mem er
  refine PS_wk (ps_raise hc takes_x (pmk_B T h1 h2 F1 hr hb hg (by rw [← ec] at hm ⊢; exact hm) he hs hdb)) fun D σ H ⟨Z, μ, ρ, S, rh, re, o⟩ => ?_
  simp only [evS] at o
  refine ⟨Z, μ, ρ, S, rh, re, o.bind fun d S1 v μ1 H1 _ l1 rh1 r1 o1 => ?_⟩
  cases d with
  | dat q =>
    simp only [rseR, er, hf, Option.isSome_some, if_true] at o1
    refine fun dx nd => o1 _ (some dx) μ1 _ (later_fresh nd _) (rh1.fresh nd _) ⟨by rw [ec]; exact hm, r, er, ?_⟩
    rw [hf]
    exact ⟨dx, v, rfl, upd_same, rh1.notlive nd, Rp.later (later_fresh nd _) r1⟩
  | _ => simp only [rseR, er] at o1; exact o1.elim
theorem sS_rseQ {x m : Str} {r : ErrRow} {j : Nat} {p p2 pos pos' : Pos} (hc : X.calm = true) (hm : X.mg x = some (.ref (He.ga X.K x))) (er : errRow x = some r) (hf : r.fld = none) (R : RaiseOk X.prog X.w X.K X.mg X.base r) (hg : Gl X x) (hdb : (x == ("__debug__" : Str)) = false) :
    PS X (.Raise (some (.Call (.Name x p) [.Constant (.str m) j p2] [] pos)) none pos') (tF X.kw (evS C (.rse x (.cst (.str m))))) := by
  unfold RaiseOk at R
  rw [hf] at R
  obtain ⟨B, newId, initId, tl, F, h1, h2, h3, h4⟩ := R
  obtain ⟨mm, ec⟩ := errRow_mem er
  rw [ec] at h1 h2 h3 h4
  refine PS_wk (ps_raise hc takes_x (pmk_own F h1 hm h2 (raises_own h3 h4) hg hdb)) fun D σ H ⟨Z, μ, ρ, S, rh, re, o⟩ => ?_
  simp only [evS, evE, R.bind_ok, rseR, er, hf, Option.isSome_none, Bool.false_eq_true, if_false] at o
  exact o _ none μ H (Later.refl _ _ _) rh ⟨hm, r, er, by rw [hf]⟩
end
end L2.LC

set_option maxHeartbeats 4000000
/-! LC: try: .. except (A, B, C) as e: x = e. The error is kept. -/
namespace L2.LC
open PySem PySem.Spec PyProof.Rows
section
variable {X : Cx} {pins : List (Addr × Obj)} {σ : St} {H : Hp} {s : Shared}
/-- an object that is there becomes a tracked one -/
theorem inv_track {a : Addr} {o : HO} (I : Inv X pins σ H s) (n0 : X.s_0.heap.get? a = none) (hn : H a = none) (nL : a ≠ X.env.locals) (nc : ∀ y c, X.env.cells.lookup y = some c → c ≠ a) (np : ∀ p ∈ X.pn ++ pins, p.1 ≠ a) (new : ObjOk X.prog X.w (upd H a o) s.heap a o) : Inv X pins σ (upd H a o) s := by
  refine ⟨I.ok, I.os, I.bare, ⟨I.base.keep, I.base.slot, fun b u q n x => ?_, I.base.there, fun b xs q => ?_, fun b u v q => ?_, fun b ps q => ?_⟩, I.loc, I.cell, ?_, fun y c q => ?_, fun p hp => ?_, fun b u e => ?_, I.len⟩
  · rw [upd_ne fun z => by rw [z, n0] at q; cases q]
    exact I.base.free b u q n x
  · have z := I.base.tups b xs q
    rw [upd_ne (ne_of_none z hn)]; exact z
  · have z := I.base.frzs b u v q
    rw [upd_ne (ne_of_none z hn)]; exact z
  · obtain ⟨more, z⟩ := I.base.tbls b ps q
    exact ⟨more, by rw [upd_ne (ne_of_none z hn)]; exact z⟩
  · rw [upd_ne (Ne.symm nL)]; exact I.free
  · rw [upd_ne (nc y c q)]; exact I.freeC y c q
  · obtain ⟨h1, h2, h3⟩ := I.pin p hp
    exact ⟨h1, by rw [upd_ne (np p hp)]; exact h2, h3⟩
  · by_cases hb : b = a
    · subst hb
      rw [upd_same] at e
      cases e
      exact new
    · rw [upd_ne hb] at e
      exact (I.hok b u e).stay (fun _ _ _ q => q) (fun c q => by rw [upd_ne (ne_of_none q hn)]; exact q) fun c xs q => by rw [upd_ne (ne_of_none q hn)]; exact q
theorem inv_suite {a : Addr} (I : Inv X pins σ H s) : Inv (X.suite a (X.pn ++ pins)) [] σ H s :=
  ⟨I.ok.suite _ _, I.os, I.bare, I.base, I.loc, I.cell, I.free, I.freeC, fun p hp => I.pin p (by rw [List.append_nil] at hp; exact hp), I.hok, I.len⟩
theorem inv_unsuite {a : Addr} {pn' : List (Addr × Obj)} (I : Inv (X.suite a (X.pn ++ pins)) pn' σ H s) (ok : X.Ok) : Inv X pins σ H s :=
  ⟨ok, I.os, I.bare, I.base, I.loc, I.cell, I.free, I.freeC, fun p hp => I.pin p (List.mem_append_left _ hp), I.hok, I.len⟩
theorem exK_ok {P : Program} {w : World} {H : Hp} {h : Heap} {a : Addr} {cls : Value} {d : Option Addr} {oe : Obj} {vs : Array Value} (h1 : h.get? a = some oe) (h2 : Zc cls d oe) (h3 : oe.data = .fields vs) : ObjOk P w H h a (ExK cls d a) :=
  ⟨⟨oe, vs, h1, h2, h3⟩, ⟨oe, h1⟩, fun _ _ ⟨oe, vs, q1, q2, q3⟩ k => ⟨oe, vs, k _ q1, q2, q3⟩⟩
theorem fly_keep {B h h' : Heap} {l : List Env} {a : Addr} {Z : Obj → Prop} (fl : HandSPX.FlyingZ B l a Z h) (k : ∀ b o, h.get? b = some o → h'.get? b = some o) : HandSPX.FlyingZ B l a Z h' := by
  obtain ⟨f1, f2, f3, oe, vs, T, oT, ts, q1, q2, q3, q4, q5, q6, q7, q8, q9⟩ := fl
  exact ⟨fun b o e => k b o (f1 b o e), f2, f3.of_keeps fun b o e _ => ⟨o, k b o e, rfl⟩, oe, vs, T, oT, ts, k _ _ q1, q2, q3, q4, q5, q6, k _ _ q7, q8, q9⟩
end
/-- what is wanted of an error of the body -/
def wSaid (K : PySem.W.Frag) (vs : List Value) (i j : Nat) (D : Ends) : WX := fun cls d σ H =>
  PySem.W.exmAny K cls vs = some true ∧ ∀ a, H a = none → D.nx (((σ.set i (some (.ref a))).set j (some (.ref a))).set i none) (upd H a (ExK cls d a))
section
variable {X : Cx}
theorem pa_names {c1 c2 c3 : Str} {a1 a2 a3 : Addr} {p1 p2 p3 : Pos} (g1 : Gl X c1 ∧ (c1 == ("__debug__" : Str)) = false ∧ X.mg c1 = some (.ref a1)) (g2 : Gl X c2 ∧ (c2 == ("__debug__" : Str)) = false ∧ X.mg c2 = some (.ref a2)) (g3 : Gl X c3 ∧ (c3 == ("__debug__" : Str)) = false ∧ X.mg c3 = some (.ref a3)) :
    PA X [.Name c1 p1, .Name c2 p2, .Name c3 p3] (tCons (tC (.ref a1)) (tCons (tC (.ref a2)) (tCons (tC (.ref a3)) tNil))) :=
  pa_cons (pe_glob (v := .ref a1) g1.1 g1.2.2 rfl g1.2.1) (pa_cons (pe_glob (v := .ref a2) g2.1 g2.2.2 rfl g2.2.1) (pa_cons (pe_glob (v := .ref a3) g3.1 g3.2.2 rfl g3.2.1) pa_nil (star_cons rfl)) (star_cons rfl)) (star_cons rfl)
theorem ps_try_said {i j : Nat} {n t c1 c2 c3 : Str} {a1 a2 a3 : Addr} {body : List Stmt} {tb : WX → TS} {p1 p2 p3 pt q1 q2 q3 pos pos' : Pos} {kt : Nat} (hs : X.stack = X.env :: X.outer) (hf : X.env.frame = some X.env.locals) (hex : X.ex = []) (hN : X.N.Nodup) (hi : X.N[i]? = some n) (hln : X.env.scope.names.lookup n = some .local)
    (hj : X.N[j]? = some t) (hlt : X.env.scope.names.lookup t = some .local) (hdn : (n == ("__debug__" : Str)) = false) (hcn : (n == ("__classdict__" : Str)) = false)
    (g1 : Gl X c1 ∧ (c1 == ("__debug__" : Str)) = false ∧ X.mg c1 = some (.ref a1)) (g2 : Gl X c2 ∧ (c2 == ("__debug__" : Str)) = false ∧ X.mg c2 = some (.ref a2)) (g3 : Gl X c3 ∧ (c3 == ("__debug__" : Str)) = false ∧ X.mg c3 = some (.ref a3))
    (hb : ∀ (W : WX) (pn : List (Addr × Obj)) (xe : Value → Shared → Prop), Takes (X.tr pn xe) W → PassesOwn (model X.prog X.w) X.A X.env xe → PSs (X.tr pn xe) body (tb W)) :
    PS X (.Try body [.ExceptHandler (some (.Tuple [.Name c1 p1, .Name c2 p2, .Name c3 p3] kt pt)) (some n) [.Assign [.Name t q1] (.Name n q2) q3] pos'] [] [] pos) (fun D σ H => tb (wSaid X.K [.ref a1, .ref a2, .ref a3] i j D) D σ H) := by
  refine ⟨fun pins s σ H D I h => ?_⟩
  have ok := I.ok
  have hfr : X.A.frames = some (X.env :: X.outer) := by rw [ok.frames, hs]
  have iN : i < X.N.length := (List.getElem?_eq_some_iff.mp hi).1
  have look := hb (wSaid X.K [.ref a1, .ref a2, .ref a3] i j D) (X.pn ++ pins) (fun e s1 => wpAny (model X.prog X.w) X.A (noteFrame e X.env) (fun _ s2 => wpAny (model X.prog X.w) X.A (setFlight e none) (fun _ s3 =>
    wpAny (model X.prog X.w) X.A (handleBy e X.env [.ExceptHandler (some (.Tuple [.Name c1 p1, .Name c2 p2, .Name c3 p3] kt pt)) (some n) [.Assign [.Name t q1] (.Name n q2) q3] pos']) (SP X pins D) X.xe s3) X.xe s2) X.xe s1) (fun u s' xx => ?_) PassesOwn.looking
  · refine wpAny_Try_except (wpAny_mono (look.run [] s σ H D (I.toTry _) h) (fun f s1 hsp => ?_) fun e s1 he => he)
    cases f with
    | next => exact hsp.elim fun σ' z => z.elim fun H' z => wpAny_execs_nil ⟨σ', H', z.1.ofTry ok, z.2⟩
    | brk => exact hsp.elim fun σ' z => z.elim fun H' z => ⟨σ', H', z.1.ofTry ok, z.2⟩
    | cont => exact hsp.elim fun σ' z => z.elim fun H' z => ⟨σ', H', z.1.ofTry ok, z.2⟩
    | ret v => exact hsp.elim fun v' z => z.elim fun σ' z => z.elim fun H' z => ⟨v', σ', H', z.1.ofTry ok, z.2⟩
  · obtain ⟨a, B, sI, pins', σ', H', cls, d, rfl, J0, nb, up, sky, na, os, ag, hx, fin⟩ := xx
    have J : Inv X pins σ' H' sI := J0.ofTry ok
    rw [hs] at sky
    refine Sky.land Zc.steady hfr hf sky fun h3 fl3 up3 => ?_
    have J3 : Inv X pins σ' H' { s' with heap := h3 } := J.landed nb fl3.1 (up.trans up3) os ag
    obtain ⟨oe3, vs3, he3, hz3, hd3⟩ := fl3.there
    have nfr : a ∉ frs (X.env :: X.outer) := fun hm => by
      obtain ⟨_, o', e', hnf⟩ := fl3.2.2.1.mem hm
      rw [he3] at e'
      cases e'
      exact hnf _ hd3
    have nL : a ≠ X.env.locals := fun z => nfr (List.mem_filterMap.mpr ⟨X.env, List.mem_cons_self, by rw [hf, z]⟩)
    have nI : sI.heap.get? a = none := by
      cases q : sI.heap.get? a with
      | none => rfl
      | some o =>
        have z := nb a o q (by rw [hs]; exact nfr)
        rw [fl3.2.1] at z
        cases z
    have n0 : X.s_0.heap.get? a = none := by
      cases q : X.s_0.heap.get? a with
      | none => rfl
      | some o =>
        obtain ⟨o', z⟩ := J.base.there a o q (by rw [hex]; exact List.not_mem_nil)
        rw [nI] at z
        cases z
    have nC : ∀ y c, X.env.cells.lookup y = some c → c ≠ a := fun y c q z => by
      obtain ⟨v, o, ho, _⟩ := J.cell y c q
      rw [z, nI] at ho
      cases ho
    have nP : ∀ p ∈ X.pn ++ pins, p.1 ≠ a := fun p hp z => by
      have q := (J.pin p hp).1
      rw [z, nI] at q
      cases q
    -- the clause looks at the error's class
    refine wpAny_handleBy_cons (codeAny_handlers_test ?_) (by intro q; cases q)
    have S3 : Inv (X.suite a (X.pn ++ pins)) [] σ' H' { s' with heap := h3 } := inv_suite J3
    refine wpAny_Tuple_spliced ?_
    show wpAny _ _ (spliced ((false, eval (.Name c1 p1) X.env) :: backTo pt (starEach [.Name c2 p2, .Name c3 p3] X.env))) _ _ _
    refine Calls.spliced_cons (ld_glob (X := X.suite a (X.pn ++ pins)) S3 g1.1 g1.2.2 ?_ g1.2.1)
    show wpAny _ _ (spliced ((false, eval (.Name c2 p2) X.env) :: backTo pt (starEach [.Name c3 p3] X.env))) _ _ _
    refine Calls.spliced_cons (ld_glob (X := X.suite a (X.pn ++ pins)) S3 g2.1 g2.2.2 ?_ g2.2.1)
    show wpAny _ _ (spliced ((false, eval (.Name c3 p3) X.env) :: backTo pt (starEach [] X.env))) _ _ _
    refine Calls.spliced_cons (ld_glob (X := X.suite a (X.pn ++ pins)) S3 g3.1 g3.2.2 ?_ g3.2.1)
    refine Calls.spliced_nil ⟨by rw [sizeLine_eq]; simp, ?_⟩
    have kp : ∀ b o, h3.get? b = some o → (h3.push { cls := .type "tuple", data := .seq [Value.ref a1, Value.ref a2, Value.ref a3].toArray }).get? b = some o := fun b o e => Heap.get?_push_of_some _ e
    have LT : PySem.W.Looks (model X.prog X.w) (h3.push { cls := .type "tuple", data := .seq [Value.ref a1, Value.ref a2, Value.ref a3].toArray }) (typeOf (.ref a)) cls := fun A Q E s k q => wpAny_typeOf_ref (k _ _ (kp _ _ he3)) (by rw [hz3.1]; exact q)
    refine (PySem.W.exm_tup3 (M := model X.prog X.w) (J3.kIn.keeps kp) LT (Heap.get?_push_size _ rfl) hx).here ?_
    refine codeAny_handlers_suite_as (HandSPX.lands_againZ (fly_keep fl3 kp) fun h5 fl5 up5 => ?_)
    have J5 : Inv X pins σ' H' { s' with heap := h5 } := J.landed nb fl5.1 (((up.trans up3).trans (Heap.UpToSlots.of_keeps kp)).trans up5) os ag
    obtain ⟨oe5, vs5, he5, hz5, hd5⟩ := fl5.there
    have S5 := inv_suite (a := a) (inv_track J5 n0 na nL nC nP (exK_ok he5 hz5 hd5))
    refine store_ok (X := X.suite a (X.pn ++ pins)) (v := .ref a) S5 hN hi (.inl hln) rfl (fun s6 S6 => ?_) (.inr hln)
    have iL : i < σ'.length := by rw [J.len]; exact iN
    have walk := pss_one (ps_set (X := X.suite a (X.pn ++ pins)) (pos := q3) (pos' := q1) hN hj (.inl hlt) (pe_var (pos := q2) hi (.inl hln) hdn hcn) rfl (.inr hlt))
    refine wpAny_mono (walk.run [] s6 _ _ { nx := fun σ6 H6 => σ6 = (σ'.set i (some (.ref a))).set j (some (.ref a)) ∧ H6 = upd H' a (ExK cls d a), rt := fun _ _ => False } S6 ⟨.ref a, List.getElem?_set_self iL, rfl, rfl⟩) (fun f s7 hsp => ?_) fun _ _ z => False.elim z
    cases f with
    | next =>
      obtain ⟨σ7, H7, S7, e1, e2⟩ := hsp
      subst e1 e2
      exact gone_ok (inv_unsuite S7 ok) hN hi hln fun s8 J8 => ⟨_, _, J8, fin a na⟩
    | brk => exact hsp.elim fun _ z => z.elim fun _ z => z.2.elim
    | cont => exact hsp.elim fun _ z => z.elim fun _ z => z.2.elim
    | ret v => exact hsp.elim fun _ z => z.elim fun _ z => z.elim fun _ z => z.2.2.elim
end
end L2.LC

/-! LC: the checker: is a piece of the text what the core says? -/
namespace L2.LC
open PySem PySem.Spec PyProof.Rows
/-- what the text's top gives: defs, constants, tables -/
structure GI where
  fns : List FD
  nms : List (Nat × Str)
  cons : List (Str × PyData)
  tabs : List (Str × List (Str × PyData))
  /-- the errors' classes are all there -/
  err : Bool := false
  /-- the errors that can be raised -/
  rs : List Str := []
  /-- _law_said is there, and looks so -/
  said : Bool := false
  sbd : Scope → List Stmt → Bool := fun _ _ => false
  /-- the defs that make lambdas -/
  lam : List Str := []
/-- a def that makes lambdas: it names _law_said -/
def lamP (sc : Scope) : Bool := decide (sc.names.lookup ("_law_said" : Str) = some .globalImplicit)

def visB (sc : Scope) (x : Str) : Bool := match sc.names.lookup x with
  | some .local => true
  | some .cell => true
  | some .free => true
  | _ => false
def glB (sc : Scope) (x : Str) : Bool := match sc.names.lookup x with
  | some .globalImplicit => true
  | _ => false
def notDbg (x : Str) : Bool := !(x == ("__debug__" : Str)) && !(x == ("__classdict__" : Str)) && !(x == ("__name__" : Str))
theorem visB_ok {sc : Scope} {x : Str} (h : visB sc x = true) : Vis sc x := by
  unfold visB at h
  split at h
  · rename_i e; exact .inl e
  · rename_i e; exact .inr (.inl e)
  · rename_i e; exact .inr (.inr e)
  · cases h
theorem glB_ok {X : Cx} {x : Str} (h : glB X.env.scope x = true) : Gl X x := by
  unfold glB at h
  split at h
  · rename_i e; exact e
  · cases h
theorem dbg_ok {x : Str} (h : notDbg x = true) : (x == ("__debug__" : Str)) = false ∧ (x == ("__classdict__" : Str)) = false ∧ x ≠ ("__name__" : Str) := by
  unfold notDbg at h
  simp only [Bool.and_eq_true, Bool.not_eq_true'] at h
  exact ⟨h.1.1, h.1.2, fun e => by rw [e] at h; simp at h⟩
def opOk : Operator → BOp → Bool
  | .Add, .add => true
  | .Sub, .sub => true
  | .Mult, .mul => true
  | .FloorDiv, .fdiv => true
  | .Mod, .mod => true
  | .Pow, .pow => true
  | _, _ => false
def copOk : CmpOp → COp → Bool
  | .Eq, .eq => true
  | .NotEq, .ne => true
  | .Lt, .lt => true
  | .LtE, .le => true
  | .Gt, .gt => true
  | .GtE, .ge => true
  | .Is, .isN => true
  | .IsNot, .notN => true
  | .In, .isin => true
  | .NotIn, .notin => true
  | _, _ => false
def notSet : Expr → Bool
  | .Set .. => false
  | _ => true
def noIf : Expr → Bool
  | .IfExp .. => false
  | _ => true
def notSlice : Expr → Bool
  | .Slice .. => false
  | _ => true
def bfName : BF → Str
  | .len => "len"
  | .int => "int"
  | .all => "all"
  | .any => "any"
  | .sorted => "sorted"
  | .tuple => "tuple"
  | .list => "list"
  | .min1 => "min"
  | .max1 => "max"
  | .min2 => "min"
  | .max2 => "max"
  | .abs => "abs"
  | .repr => "repr"
def tyStr : Ty → Str
  | .int => "int"
  | .bool => "bool"
  | .str => "str"
  | .tuple => "tuple"
def isTup : Expr → Bool
  | .Tuple .. => true
  | _ => false
/-- where a name may be stored -/
def stB (fn : Str → Bool) (sc : Scope) (x : Str) : Bool := match sc.names.lookup x with
  | some .local => true
  | some .cell => fn x
  | _ => false
section
variable (N : List Str)
mutual
def chkG (fn : Str → Bool) (sc : Scope) : Tg → Expr → Bool
  | .name i, .Name x _ => decide (N[i]? = some x) && stB fn sc x
  | .tup ts, .Tuple es _ _ => chkGs fn sc ts es
  | _, _ => false
def chkGs (fn : Str → Bool) (sc : Scope) : Tgs → List Expr → Bool
  | .nil, [] => true
  | .cons t ts, e :: es => chkG fn sc t e && chkGs fn sc ts es
  | _, _ => false
end
end
/-- places with their names -/
def nmd (N : List Str) (own : List Nat) : List (Str × Nat) := own.map fun i => (N.getD i "", i)
theorem nmd_map (N : List Str) (own : List Nat) : (nmd N own).map (·.2) = own := by
  unfold nmd
  rw [List.map_map]
  exact List.map_id'' (fun _ => rfl) own
/-- the keys of a display are these texts -/
def keyB : List Str → List (Option Expr) → Bool
  | [], [] => true
  | k :: ks, some (.Constant (.str x) _ _) :: es => decide (k = x) && keyB ks es
  | _, _ => false
variable (G : GI) (N : List Str) in
mutual
def chkE : CE → Scope → Expr → Bool
  | .var i, sc, .Name x _ => decide (N[i]? = some x) && visB sc x && notDbg x
  | .cst p, sc, .Name x _ => glB sc x && notDbg x && (match G.cons.lookup x with
    | some q => peq q p
    | none => false)
  | .cst p, _, .Constant c _ _ => cstOk c p
  | .tup cs, sc, .Tuple es _ _ => chkEs cs sc es && decide (cs.len ≤ 1000)
  | .lst cs, sc, .List es _ => chkEs cs sc es && decide (cs.len ≤ 1000)
  | .mk cs, sc, .List es _ => chkEs cs sc es && decide (cs.len ≤ 1000)
  | .bin o ca cb, sc, .BinOp a op b _ => opOk op o && chkE ca sc a && chkE cb sc b
  | .neg ca, sc, .UnaryOp .USub a _ => chkE ca sc a
  | .nt ca, sc, .UnaryOp .Not a _ => chkE ca sc a && noIf a
  | .and ca cb, sc, .BoolOp .And (e :: es) _ => (chkE ca sc e && noIf e) && (match es with
    | [e2] => chkE cb sc e2 && noIf e2
    | _ => chkL true cb sc es)
  | .or ca cb, sc, .BoolOp .Or (e :: es) _ => (chkE ca sc e && noIf e) && (match es with
    | [e2] => chkE cb sc e2 && noIf e2
    | _ => chkL false cb sc es)
  | .cmp o ca cb, sc, .Compare a [op] [b] _ => copOk op o && notSet b && chkE ca sc a && chkE cb sc b
  | .chn o o' ca cb cc, sc, .Compare a [op, op'] [b, c] _ => copOk op o && copOk op' o' && notSet c && chkE ca sc a && chkE cb sc b && chkE cc sc c
  | .ite cc ca cb, sc, .IfExp c a b _ => chkE cc sc c && noIf c && chkE ca sc a && chkE cb sc b
  | .call f cs, sc, .Call (.Name x _) es [] _ => glB sc x && notDbg x && (match G.nms.lookup f with
    | some y => decide (y = x)
    | none => false) && es.all notStar && chkEs cs sc es
  | .bf b cs, sc, .Call (.Name x _) (e :: es) [] _ => decide (bfName b = x) && glB sc x && (e :: es).all notStar && chkEs cs sc (e :: es)
  | .isi t c, sc, .Call (.Name x _) [e, .Name tn _] [] _ => decide (x = "isinstance") && glB sc x && decide (tn = tyStr t) && glB sc tn && notStar e && chkE c sc e
  | .idx ca cb, sc, .Subscript a b _ => notSlice b && chkE ca sc a && chkE cb sc b
  | .slc ca lo hi, sc, .Subscript a (.Slice l h none _) _ => chkE ca sc a && chkO lo sc l && chkO hi sc h
  | .comp e t own it c, sc, .ListComp elt [⟨tg, iter, ifs, asy⟩] scope _ => asy == 0 && blkC N sc scope (nmd N own) && t.ix.all (fun i => own.contains i) && chkI it sc iter tg && chkG N (fun x => scope.names.lookup x == some .cell) (relS scope sc) t tg &&
      chkC c (relS scope sc) ifs && chkE e (relS scope sc) elt && (match sc.kind with | .function => true | _ => false) && (!lamP (relS scope sc) || lamP sc)
  | .tab x t c, sc, .Subscript (.Name y _) e _ => decide (x = y) && glB sc x && notDbg x && (match G.tabs.lookup x with
    | some t' => t'.length == t.length && (t'.zip t).all (fun q => decide (q.1.1 = q.2.1) && peq q.1.2 q.2.2)
    | none => false) && notSlice e && chkE c sc e
  | .frz c, sc, e => chkE c sc e
  | .isx c ca, sc, .Call (.Name x _) [e, .Name y _] [] _ => G.err && decide (x = "isinstance") && glB sc x && decide (y = c) && glB sc y && notDbg y && (errRow c).isSome && notStar e && chkE ca sc e
  | .fld f ca, sc, .Attribute e a _ => G.err && decide (a = f) && notSuper e && chkE ca sc e
  | .said ca, sc, .Call (.Name x _) [.Lambda pr bd lsc _] [] _ => G.said && decide (x = "_law_said") && glB sc x && lamP sc && (match lamParB pr with | some o => lamScB N sc lsc o && !lamP lsc | none => false) && chkE ca lsc bd
  | .dsp ks cs, sc, .Dict keys es _ => keyB ks keys && decide (keys.length = es.length) && !keys.isEmpty && decide (keys.length ≤ 15) && decide (ks.Nodup) && chkEs cs sc es
  | .tb0, _, .Dict [] [] _ => true
  | .tb1 ck cv, sc, .Dict [some ke] [ve] _ => chkE ck sc ke && chkE cv sc ve
  | .rev c, sc, .Subscript e (.Slice none none (some (.UnaryOp .USub (.Constant (.int i) _ _) _)) _) _ => decide (i = 1) && chkE c sc e
  | .pop0 c, sc, .Call (.Attribute o m apos) [] [] cpos => decide (m = "pop") && notSuper o && (apos.endLine == cpos.line) && chkE c sc o
  | .pop1 c d, sc, .Call (.Attribute o m apos) [e] [] cpos => decide (m = "pop") && notSuper o && notStar e && (apos.endLine == cpos.line) && chkE c sc o && chkE d sc e
  | .lrg c, sc, .Call (.Name x _) [.Call (.Name y _) [e] [] _] [] _ => decide (x = "list") && glB sc x && decide (y = "range") && glB sc y && notStar e && chkE c sc e
  | .lsd c, sc, .Call (.Name x _) [e] [] _ => decide (x = "list") && glB sc x && notStar e && chkE c sc e
  | .bfm b cs, sc, .Call (.Name x _) (e :: es) [] _ => (match b with | .sorted => true | .list => true | _ => false) && decide (bfName b = x) && glB sc x && (e :: es).all notStar && chkEs cs sc (e :: es)
  | _, _, _ => false
/-- a chain of and (or) from its second place on -/
def chkL (isAnd : Bool) : CE → Scope → List Expr → Bool
  | .and ca cb, sc, e :: es => isAnd && (chkE ca sc e && noIf e) && (match es with
    | [e2] => chkE cb sc e2 && noIf e2
    | _ => chkL isAnd cb sc es)
  | .or ca cb, sc, e :: es => !isAnd && (chkE ca sc e && noIf e) && (match es with
    | [e2] => chkE cb sc e2 && noIf e2
    | _ => chkL isAnd cb sc es)
  | _, _, _ => false
def chkEs : CEs → Scope → List Expr → Bool
  | .nil, _, [] => true
  | .cons c cs, sc, e :: es => chkE c sc e && notStar e && chkEs cs sc es
  | _, _, _ => false
def chkO : CO → Scope → Option Expr → Bool
  | .none, _, none => true
  | .some c, sc, some e => chkE c sc e
  | _, _, _ => false
def chkC : CO → Scope → List Expr → Bool
  | .none, _, [] => true
  | .some c, sc, [e] => chkE c sc e && noIf e
  | _, _, _ => false
def chkI : IT → Scope → Expr → Expr → Bool
  | .seq c, sc, e, _ => chkE c sc e && notSet e
  | .rng1 c, sc, .Call (.Name x _) [e] [] _, _ => decide (x = "range") && glB sc x && notStar e && chkE c sc e
  | .rng2 c c2, sc, .Call (.Name x _) [e, e2] [] _, _ => decide (x = "range") && glB sc x && notStar e && notStar e2 && chkE c sc e && chkE c2 sc e2
  | .enum c, sc, .Call (.Name x _) [e] [] _, tg => decide (x = "enumerate") && glB sc x && notStar e && chkE c sc e && isTup tg
  | .zip c c2, sc, .Call (.Name x _) [e, e2] [] _, tg => decide (x = "zip") && glB sc x && notStar e && notStar e2 && chkE c sc e && chkE c2 sc e2 && isTup tg
  | _, _, _, _ => false
end
end L2.LC

/-! LC: what the checker lets by is simulated. -/
namespace L2.LC
open PySem PySem.Spec PyProof.Rows
/-- the built-ins' names that the core uses -/
def bltNames : List Str := ["len", "int", "all", "any", "sorted", "tuple", "list", "min", "max", "abs", "isinstance", "bool", "str", "range", "enumerate", "zip", "repr"]
/-- a lambda can be made here -/
structure LamOk (k : Nat) (X : Cx) : Prop where
  room : Room (k + 2) X.A
  ex : ∃ c P, X.env.code = .ref c ∧ LamX.TabB X.base X.mg c P ∧ (P, X.env.qual ++ ("<lambda>" : Str)) ∈ tabsK X.K ∧ ∀ p ∈ tabsK X.K, p.1 = P → p.2 = X.env.qual ++ ("<lambda>" : Str)
abbrev saidN : List Str := ["_law_call", "_law_caught", "_law_found", "e"]
/-- the def _law_said -/
def SaidDef (G : GI) (K : PySem.W.Frag) (mg : Str → Option Value) : Prop := ∃ (g : Addr) (fd : FuncData) (pr : Arguments) (bd : List Stmt) (sc : Scope), mg "_law_said" = some (.ref g) ∧ FunD K "_law_said" "_law_said" pr bd sc [] [] g fd ∧ FnScope saidN ["_law_call"] sc ∧ G.sbd sc bd = true ∧ Binds K fd ["_law_call"] []
structure GoodX (G : GI) (C : Calls) (k : Nat) (X : Cx) : Prop where
  calm : X.calm = true
  nd : X.N.Nodup
  room : Room k X.A
  gd : X.A.guards = some []
  blt : ∀ x ∈ bltNames, X.mg x = none
  con : ∀ x p, G.cons.lookup x = some p → ∃ u v, X.mg x = some u ∧ RelV v u ∧ RpK X.K v p
  tab : ∀ x t, G.tabs.lookup x = some t → ∃ a, X.mg x = some (.ref a) ∧ ∀ z d, t.lookup z = some d → ∃ v, KDct X.K X.w a z v ∧ RpK X.K v d
  fn : ∀ f x, G.nms.lookup f = some x → ∃ n, (∀ ds S, C f ds S ≠ .no → ds.length = n) ∧ ∃ fa fdt ps, X.mg x = some (.ref fa) ∧ PySem.W.keepIn X.K (.ref fa) = true ∧ Binds X.K fdt ps [] ∧ FnG X.prog X.w X.K X.mg X.base (CX X.prog X.w) k fa fdt ps (spF X.kw n (C f))
  err : G.err = true → ErrOk X.K X.mg
  two : 2 ≤ k
  rse : ∀ x ∈ G.rs, ∀ r, errRow x = some r → X.mg x = some (.ref (He.ga X.K x)) ∧ RaiseOk X.prog X.w X.K X.mg X.base r
  lam : lamP X.env.scope = true → LamOk k X
  said : G.said = true → G.err = true ∧ SaidDef G X.K X.mg
theorem GoodX.blk {G : GI} {C : Calls} {k : Nat} {X : Cx} (g : GoodX G C k X) (s : Shared) (H : Hp) (scope : Scope) (cl : List (Str × Addr)) (Cc : Addr) (fp : List Addr) (h : (!lamP (relS scope X.env.scope) || lamP X.env.scope) = true) : GoodX G C k (X.blk s H scope (compEnvC scope cl Cc X.env) fp) :=
  ⟨g.calm, g.nd, g.room, g.gd, g.blt, g.con, g.tab, g.fn, g.err, g.two, g.rse, fun q => ⟨(g.lam (by
    have q' : lamP (relS scope X.env.scope) = true := q
    rw [q'] at h
    simpa using h)).room, (g.lam (by
    have q' : lamP (relS scope X.env.scope) = true := q
    rw [q'] at h
    simpa using h)).ex⟩, g.said⟩
theorem marks_ok {op : CmpOp} {b : Expr} (h : notSet b = true) : behindInMarks op b = false := by
  cases b <;> first | rfl | (simp [notSet] at h)
theorem last_ok {op op' : CmpOp} {b c : Expr} (h : notSet c = true) : lastMarks [op, op'] [b, c] = false := by
  show behindInMarks op' c = false
  exact marks_ok h
theorem plain_ok {b : Expr} (h : notSlice b = true) : PlainIx b := by
  intro o i
  cases b <;> first | rfl | (simp [notSlice] at h)
theorem folded_ok {e : Expr} {env : Env} (h : notSet e = true) : ∀ x, foldedSetIterable e env x = pure x := by
  intro x
  cases e <;> first | rfl | (simp [notSet] at h)
theorem cop_mem {op : CmpOp} {o : COp} (h : copOk op o = true) : (op, o) ∈ [(CmpOp.Eq, COp.eq), (.NotEq, .ne), (.In, .isin), (.NotIn, .notin), (.Lt, .lt), (.LtE, .le), (.Gt, .gt), (.GtE, .ge), (.Is, .isN), (.IsNot, .notN)] := by
  cases op <;> cases o <;> simp [copOk] at h <;> simp
theorem op_bin {X : Cx} {op : Operator} {o : BOp} (h : opOk op o = true) : DOp X (binaryOp op) (fun _ x y => binD o x y) := by
  cases op <;> cases o <;> simp [opOk] at h
  · exact bin_add
  · exact bin_sub
  · exact bin_mul
  · exact bin_mod
  · exact bin_pow
  · exact bin_fdiv
theorem st_ok {X : Cx} {fn : Str → Bool} (hf : ∀ x, fn x = true → X.fn x = true) {x : Str} (h : stB fn X.env.scope x = true) : Loc X.env.scope x ∧ (X.fn x = true ∨ X.env.scope.names.lookup x = some .local) := by
  unfold stB at h
  split at h
  · rename_i e; exact ⟨.inl e, .inr e⟩
  · rename_i e; exact ⟨.inr e, .inl (hf x h)⟩
  · cases h
theorem assign_cons {e : Expr} {es : List Expr} {env : Env} (h : notStar e = true) : assignEach (e :: es) env = (false, assign e env) :: assignEach es env := by
  cases e <;> first | rfl | (simp [notStar] at h)
def Tgs.len : Tgs → Nat
  | .nil => 0
  | .cons _ ts => ts.len + 1
theorem bindTs_len : ∀ {ts : Tgs} {ps : List PyData} {ρ ρ' : En}, bindTs ts ps ρ = some ρ' → ps.length = ts.len
  | .nil, ps, ρ, ρ', h => by cases ps <;> simp [bindTs] at h; rfl
  | .cons t ts, ps, ρ, ρ', h => by
    cases ps with
    | nil => simp [bindTs] at h
    | cons p ps =>
      simp only [bindTs] at h
      split at h
      · simp [Tgs.len, bindTs_len h]
      · cases h
theorem chkG_star {N : List Str} {fn : Str → Bool} {sc : Scope} {t : Tg} {e : Expr} (h : chkG N fn sc t e = true) : notStar e = true := by
  cases t <;> cases e <;> first | rfl | (simp [chkG] at h)
theorem chkGs_len {N : List Str} {fn : Str → Bool} {sc : Scope} {env : Env} : ∀ {ts : Tgs} {es : List Expr}, chkGs N fn sc ts es = true → (assignEach es env).length = ts.len ∧ (assignEach es env).findIdx? (·.1) = none
  | .nil, es, h => by cases es <;> simp [chkGs] at h; exact ⟨rfl, rfl⟩
  | .cons t ts, es, h => by
    cases es with
    | nil => simp [chkGs] at h
    | cons e es =>
      simp only [chkGs, Bool.and_eq_true] at h
      have ih := chkGs_len (env := env) h.2
      rw [assign_cons (chkG_star h.1)]
      refine ⟨by simp [Tgs.len, ih.1], ?_⟩
      rw [List.findIdx?_cons]
      simp [ih.2]
section
variable {X : Cx}
mutual
theorem sndG (hc : X.calm = true) (hN : X.N.Nodup) {fn : Str → Bool} (hf : ∀ x, fn x = true → X.fn x = true) : ∀ {t : Tg} {e : Expr}, chkG X.N fn X.env.scope t e = true → PG X e (gT X.kw t)
  | .name i, e, h => by
    cases e <;> simp only [chkG, Bool.false_eq_true] at h
    rename_i x pos
    simp only [Bool.and_eq_true, decide_eq_true_eq] at h
    obtain ⟨h1, h2⟩ := st_ok hf h.2
    exact sG_name hN h.1 h1 h2
  | .tup ts, e, h => by
    cases e <;> simp only [chkG, Bool.false_eq_true] at h
    rename_i es k pos
    have q := chkGs_len (env := X.env) h
    exact sG_tup hc (sndGs hc hN hf h) q.1 q.2 fun ps ρ ρ' e => bindTs_len e
theorem sndGs (hc : X.calm = true) (hN : X.N.Nodup) {fn : Str → Bool} (hf : ∀ x, fn x = true → X.fn x = true) : ∀ {ts : Tgs} {es : List Expr}, chkGs X.N fn X.env.scope ts es = true → PGs X es (gTs X.kw ts)
  | .nil, es, h => by
    cases es <;> simp only [chkGs, Bool.false_eq_true] at h
    exact sGs_nil
  | .cons t ts, es, h => by
    cases es with
    | nil => simp [chkGs] at h
    | cons e es =>
      simp only [chkGs, Bool.and_eq_true] at h
      exact sGs_cons (sndG hc hN hf h.1) (sndGs hc hN hf h.2) (by rw [assign_cons (chkG_star h.1)]; rfl)
end
end
theorem blt_of {X : Cx} {G : GI} {C : Calls} {k : Nat} (g : GoodX G C k X) (b : BF) : X.mg (bfName b) = none := g.blt _ (by cases b <;> decide)
theorem sE_bf {X : Cx} {G : GI} {C : Calls} {k : Nat} (g : GoodX G C k X) {b : BF} {p pos : Pos} {e : Expr} {es : List Expr} {cs : CEs} (hg : Gl X (bfName b)) (ha : PA X (e :: es) (tAs X.kw (evEs C cs))) (hs : notStar e = true) (hss : es.all notStar = true) : PE X (.Call (.Name (bfName b) p) (e :: es) [] pos) (tE X.kw (evE C (.bf b cs))) := by
  have hm := blt_of g b
  cases b with
  | len => exact sE_bfB c_len hg hm (by decide +kernel) ha hs hss (by decide) (by decide)
  | int => exact sE_bfT c_int hg hm (by decide +kernel) ha hs hss (by decide) (by decide)
  | all => exact sE_bfB (c_all g.calm) hg hm (by decide +kernel) ha hs hss (by decide) (by decide)
  | any => exact sE_bfB (c_any g.calm) hg hm (by decide +kernel) ha hs hss (by decide) (by decide)
  | sorted => exact sE_bfB (c_sorted g.room) hg hm (by decide +kernel) ha hs hss (by decide) (by decide)
  | tuple => exact sE_bfT c_tuple hg hm (by decide +kernel) ha hs hss (by decide) (by decide)
  | list => exact sE_bfT c_list hg hm (by decide +kernel) ha hs hss (by decide) (by decide)
  | min1 => exact sE_bfB (c_min1 g.room g.calm) hg hm (by decide +kernel) ha hs hss (by decide) (by decide)
  | max1 => exact sE_bfB (c_max1 g.room g.calm) hg hm (by decide +kernel) ha hs hss (by decide) (by decide)
  | min2 => exact sE_bfB (c_min2 g.calm) hg hm (by decide +kernel) ha hs hss (by decide) (by decide)
  | max2 => exact sE_bfB (c_max2 g.calm) hg hm (by decide +kernel) ha hs hss (by decide) (by decide)
  | abs => exact sE_bfB c_abs hg hm (by decide +kernel) ha hs hss (by decide) (by decide)
  | repr => exact sE_bfB (c_repr g.room g.gd) hg hm (by decide +kernel) ha hs hss (by decide) (by decide)
theorem lookup_zip {t t' : List (Str × PyData)} (hl : t'.length = t.length) (h : (t'.zip t).all (fun q => decide (q.1.1 = q.2.1) && peq q.1.2 q.2.2) = true) : t' = t := by
  induction t' generalizing t with
  | nil => cases t <;> simp at hl; rfl
  | cons a as ih =>
    cases t with
    | nil => simp at hl
    | cons b bs =>
      simp only [List.zip_cons_cons, List.all_cons, Bool.and_eq_true, decide_eq_true_eq] at h
      have e := peq_ok h.1.2
      rw [ih (by simpa using hl) h.2]
      obtain ⟨a1, a2⟩ := a
      obtain ⟨b1, b2⟩ := b
      have h1 : a1 = b1 := h.1.1
      have h2 : a2 = b2 := e
      rw [h1, h2]
/-- both as a value and as a test -/
structure Snd (C : Calls) (c : CE) (X : Cx) (e : Expr) : Prop where
  pe : PE X e (tE X.kw (evE C c))
  pt : noIf e = true → PT X e (tTs X.kw (evB C c))
theorem Snd.val {C : Calls} {c : CE} {X : Cx} {e : Expr} (h : PE X e (tE X.kw (evE C c))) (he : ∀ whole, isTrue e X.env whole = (do let v ← whole; standAt e.pos; holding [v] (truthy v))) : Snd C c X e := ⟨h, fun _ => sT_val h he⟩
structure SndL (C : Calls) (c : CE) (X : Cx) (op : BoolOp) (es : List Expr) : Prop where
  pe : ∀ pos, PE X (.BoolOp op es pos) (tE X.kw (evE C c))
  pw : ∀ pos, PW X (.BoolOp op es pos) (tTs X.kw (evB C c))
theorem PW_wk {X : Cx} {e : Expr} {t t' : TT} (h : PW X e t) (w : ∀ σ H Q, t' σ H Q → t σ H Q) : PW X e t' := ⟨fun wh pins s σ H Q I hw => h.run wh pins s σ H Q I (w σ H Q hw)⟩
theorem sL_and2 {X : Cx} {C : Calls} {a b : Expr} {ca cb : CE} (ha : Snd C ca X a) (hb : Snd C cb X b) (na : noIf a = true) (nb : noIf b = true) : SndL C (.and ca cb) X .And [a, b] :=
  ⟨fun pos => PE_wk (pe_and ha.pe (pe_one hb.pe)) fun σ H Q h => tE_and h, fun pos => PW_wk (pw_and (ha.pt na) (pw_and1 (hb.pt nb))) fun σ H Q h => tT_and h⟩
theorem sL_and {X : Cx} {C : Calls} {a b : Expr} {es : List Expr} {ca cb : CE} (ha : Snd C ca X a) (hb : SndL C cb X .And (b :: es)) (na : noIf a = true) : SndL C (.and ca cb) X .And (a :: b :: es) :=
  ⟨fun pos => PE_wk (pe_and ha.pe (hb.pe pos)) fun σ H Q h => tE_and h, fun pos => PW_wk (pw_and (ha.pt na) (hb.pw pos)) fun σ H Q h => tT_and h⟩
theorem sL_or2 {X : Cx} {C : Calls} {a b : Expr} {ca cb : CE} (ha : Snd C ca X a) (hb : Snd C cb X b) (na : noIf a = true) (nb : noIf b = true) : SndL C (.or ca cb) X .Or [a, b] :=
  ⟨fun pos => PE_wk (pe_or ha.pe (pe_one hb.pe)) fun σ H Q h => tE_or h, fun pos => PW_wk (pw_or (ha.pt na) (pw_or1 (hb.pt nb))) fun σ H Q h => tT_or h⟩
theorem sL_or {X : Cx} {C : Calls} {a b : Expr} {es : List Expr} {ca cb : CE} (ha : Snd C ca X a) (hb : SndL C cb X .Or (b :: es)) (na : noIf a = true) : SndL C (.or ca cb) X .Or (a :: b :: es) :=
  ⟨fun pos => PE_wk (pe_or ha.pe (hb.pe pos)) fun σ H Q h => tE_or h, fun pos => PW_wk (pw_or (ha.pt na) (hb.pw pos)) fun σ H Q h => tT_or h⟩
theorem SndL.snd {X : Cx} {C : Calls} {c : CE} {op : BoolOp} {es : List Expr} {pos : Pos} (h : SndL C c X op es) : Snd C c X (.BoolOp op es pos) := ⟨h.pe pos, fun _ => (h.pw pos).pt⟩
theorem snd_frz {X : Cx} {C : Calls} {c : CE} {e : Expr} (h : Snd C c X e) : Snd C (.frz c) X e := by
  refine ⟨sE_frz h.pe, fun n => PT_wk (h.pt n) fun σ H Q ⟨Z, μ, ρ, S, rh, re, o⟩ => ⟨Z, μ, ρ, S, rh, re, ?_⟩⟩
  simp only [evB, asB, evE, R.bind_assoc] at o ⊢
  cases q : evE C c ρ S with
  | no => rw [q] at o; exact o
  | ex x h' => rw [q] at o; exact o
  | ok d S1 =>
    rw [q] at o
    simp only [R.bind_ok] at o ⊢
    cases d with
    | dat p => exact o
    | scr ns => exact o.elim
    | dct kvs => exact o.elim
    | exv x => exact o.elim
    | ref n =>
      exfalso
      cases er : rd S1 (.ref n) with
      | some p =>
        simp only [er, R.bind_ok] at o
        simp only [rd] at er
        split at er
        · rename_i xs hx
          obtain ⟨qs, _, e2⟩ := Option.map_eq_some_iff.mp er
          subst e2
          exact o
        · cases er
      | none =>
        simp only [er] at o
        cases et : tabD S1 n with
        | none => simp only [et] at o; exact o
        | some qs => simp only [et] at o; exact o
end L2.LC

set_option maxHeartbeats 4000000
/-! LC: the theorem of the checker. -/
namespace L2.LC
open PySem PySem.Spec PyProof.Rows
section
variable {G : GI} {C : Calls} {k : Nat}
theorem bool_and {a b : Bool} (h : (a && b) = true) : a = true ∧ b = true := by simpa using h
variable (G : GI) (C : Calls) (k : Nat) in
def SE (c : CE) : Prop := ∀ X, GoodX G C k X → ∀ e, chkE G X.N c X.env.scope e = true → Snd C c X e
variable (G : GI) (C : Calls) (k : Nat) in
def SL (c : CE) : Prop := ∀ isAnd X, GoodX G C k X → ∀ es, chkL G X.N isAnd c X.env.scope es = true → SndL C c X (if isAnd then .And else .Or) es
variable (G : GI) (C : Calls) (k : Nat) in
def SA (c : CEs) : Prop := ∀ X, GoodX G C k X → ∀ es, chkEs G X.N c X.env.scope es = true → PA X es (tAs X.kw (evEs C c)) ∧ ∀ ks keys pos, keyB ks keys = true → keys.length = es.length → PPs X pos keys es (trsOf X C ks c)
variable (G : GI) (C : Calls) (k : Nat) in
def SO (c : CO) : Prop := ∀ X, GoodX G C k X → ∀ e, chkO G X.N c X.env.scope e = true → PO X e (tO X.kw (evO C c))
variable (G : GI) (C : Calls) (k : Nat) in
def SC (c : CO) : Prop := ∀ X, GoodX G C k X → ∀ es, chkC G X.N c X.env.scope es = true → PTs X es (tTs X.kw (evT C c))
variable (G : GI) (C : Calls) (k : Nat) in
def SI (c : IT) : Prop := ∀ X, GoodX G C k X → ∀ e tg, chkI G X.N c X.env.scope e tg = true → PI X tg e (tI X.kw (evI C c)) ∧ ∀ x, foldedSetIterable e X.env x = pure x
theorem sSE_var {i : Nat}  : SE G C k (.var i) := fun X g e h => by
    cases e <;> simp only [chkE, Bool.false_eq_true] at h
    simp only [Bool.and_eq_true, decide_eq_true_eq] at h
    obtain ⟨d1, d2, _⟩ := dbg_ok h.2
    exact Snd.val (sE_var h.1.1 (visB_ok h.1.2) d1 d2) (by intro _; rfl)
theorem sSE_cst {p : PyData}  : SE G C k (.cst p) := fun X g e h => by
    cases e <;> simp only [chkE, Bool.false_eq_true] at h
    · exact Snd.val (sE_cst h) (by intro _; rfl)
    · simp only [Bool.and_eq_true] at h
      obtain ⟨d1, d2, _⟩ := dbg_ok h.1.2
      split at h
      · rename_i q hq
        have e := peq_ok h.2
        subst e
        obtain ⟨u, v, h1, h2, h3⟩ := g.con _ _ hq
        exact Snd.val (sE_glob (glB_ok h.1.1) h1 h2 h3 d1) (by intro _; rfl)
      · cases h.2
theorem sSE_tup {cs : CEs} (iA_cs : SA G C k cs) : SE G C k (.tup cs) := fun X g e h => by
    cases e <;> simp only [chkE, Bool.false_eq_true] at h
    simp only [Bool.and_eq_true, decide_eq_true_eq] at h
    exact Snd.val (sE_tup (iA_cs X g _ h.1).1 h.2) (by intro _; rfl)
theorem sSE_lst {cs : CEs} (iA_cs : SA G C k cs) : SE G C k (.lst cs) := fun X g e h => by
    cases e <;> simp only [chkE, Bool.false_eq_true] at h
    simp only [Bool.and_eq_true, decide_eq_true_eq] at h
    exact Snd.val (sE_lst (iA_cs X g _ h.1).1 h.2) (by intro _; rfl)
theorem sSE_mk {cs : CEs} (iA_cs : SA G C k cs) : SE G C k (.mk cs) := fun X g e h => by
    cases e <;> simp only [chkE, Bool.false_eq_true] at h
    simp only [Bool.and_eq_true, decide_eq_true_eq] at h
    exact Snd.val (sE_mk (iA_cs X g _ h.1).1 h.2) (by intro _; rfl)
theorem sSE_bin {o : BOp} {ca : CE} {cb : CE} (iE_ca : SE G C k ca) (iE_cb : SE G C k cb) : SE G C k (.bin o ca cb) := fun X g e h => by
    cases e <;> simp only [chkE, Bool.false_eq_true] at h
    simp only [Bool.and_eq_true] at h
    exact Snd.val (sE_bin (op_bin h.1.1) (iE_ca X g _ h.1.2).pe (iE_cb X g _ h.2).pe) (by intro _; rfl)
theorem sSE_neg {ca : CE} (iE_ca : SE G C k ca) : SE G C k (.neg ca) := fun X g e h => by
    cases e with
    | UnaryOp op a pos =>
      cases op <;> simp only [chkE, Bool.false_eq_true] at h
      exact Snd.val (sE_neg (iE_ca X g _ h).pe) (by intro _; rfl)
    | _ => simp [chkE] at h
theorem sSE_nt {ca : CE} (iE_ca : SE G C k ca) : SE G C k (.nt ca) := fun X g e h => by
    cases e with
    | UnaryOp op a pos =>
      cases op <;> simp only [chkE, Bool.false_eq_true] at h
      simp only [Bool.and_eq_true] at h
      have q := iE_ca X g _ h.1
      exact ⟨sE_not q.pe, fun _ => sT_not (q.pt h.2)⟩
    | _ => simp [chkE] at h
theorem sSE_and {ca : CE} {cb : CE} (iE_ca : SE G C k ca) (iE_cb : SE G C k cb) (iL_cb : SL G C k cb) : SE G C k (.and ca cb) := fun X g e h => by
    cases e with
    | BoolOp op es pos =>
      cases op with
      | Or => simp [chkE] at h
      | And =>
        rcases es with _ | ⟨e1, _ | ⟨e2, _ | ⟨e3, es⟩⟩⟩
        · simp [chkE] at h
        · simp only [chkE, Bool.and_eq_true] at h
          have z := h.2
          cases cb <;> simp [chkL] at z
        · simp only [chkE, Bool.and_eq_true] at h
          exact (sL_and2 (iE_ca X g _ h.1.1) (iE_cb X g _ h.2.1) h.1.2 h.2.2).snd
        · simp only [chkE, Bool.and_eq_true] at h
          exact (sL_and (iE_ca X g _ h.1.1) (iL_cb true X g _ h.2) h.1.2).snd
    | _ => simp [chkE] at h
theorem sSE_or {ca : CE} {cb : CE} (iE_ca : SE G C k ca) (iE_cb : SE G C k cb) (iL_cb : SL G C k cb) : SE G C k (.or ca cb) := fun X g e h => by
    cases e with
    | BoolOp op es pos =>
      cases op with
      | And => simp [chkE] at h
      | Or =>
        rcases es with _ | ⟨e1, _ | ⟨e2, _ | ⟨e3, es⟩⟩⟩
        · simp [chkE] at h
        · simp only [chkE, Bool.and_eq_true] at h
          have z := h.2
          cases cb <;> simp [chkL] at z
        · simp only [chkE, Bool.and_eq_true] at h
          exact (sL_or2 (iE_ca X g _ h.1.1) (iE_cb X g _ h.2.1) h.1.2 h.2.2).snd
        · simp only [chkE, Bool.and_eq_true] at h
          exact (sL_or (iE_ca X g _ h.1.1) (iL_cb false X g _ h.2) h.1.2).snd
    | _ => simp [chkE] at h
theorem sSE_cmp {o : COp} {ca : CE} {cb : CE} (iE_ca : SE G C k ca) (iE_cb : SE G C k cb) : SE G C k (.cmp o ca cb) := fun X g e h => by
    cases e with
    | Compare a ops bs pos =>
      rcases ops with _ | ⟨op, _ | ⟨op', ops⟩⟩ <;> rcases bs with _ | ⟨b, _ | ⟨b', bs⟩⟩ <;> simp only [chkE, Bool.false_eq_true] at h
      simp only [Bool.and_eq_true] at h
      have ho := op_cmp g.room (cop_mem h.1.1.1)
      have ha := (iE_ca X g _ h.1.2).pe
      have hb := (iE_cb X g _ h.2).pe
      exact ⟨sE_cmp ho (marks_ok h.1.1.2) ha hb, fun _ => sT_cmp ho (marks_ok h.1.1.2) ha hb⟩
    | _ => simp [chkE] at h
theorem sSE_chn {o : COp} {o' : COp} {ca : CE} {cb : CE} {cc : CE} (iE_ca : SE G C k ca) (iE_cb : SE G C k cb) (iE_cc : SE G C k cc) : SE G C k (.chn o o' ca cb cc) := fun X g e h => by
    cases e with
    | Compare a ops bs pos =>
      rcases ops with _ | ⟨op, _ | ⟨op', _ | ⟨op'', ops⟩⟩⟩ <;> rcases bs with _ | ⟨b, _ | ⟨b', _ | ⟨b'', bs⟩⟩⟩ <;> simp only [chkE, Bool.false_eq_true] at h
      simp only [Bool.and_eq_true] at h
      have ho := op_cmp g.room (cop_mem h.1.1.1.1.1)
      have ho' := op_cmp g.room (cop_mem h.1.1.1.1.2)
      have ha := (iE_ca X g _ h.1.1.2).pe
      have hb := (iE_cb X g _ h.1.2).pe
      have hc := (iE_cc X g _ h.2).pe
      exact ⟨sE_chn ho ho' (last_ok h.1.1.1.2) ha hb hc, fun _ => sT_chn ho ho' (last_ok h.1.1.1.2) ha hb hc⟩
    | _ => simp [chkE] at h
theorem sSE_ite {cc : CE} {ca : CE} {cb : CE} (iE_cc : SE G C k cc) (iE_ca : SE G C k ca) (iE_cb : SE G C k cb) : SE G C k (.ite cc ca cb) := fun X g e h => by
    cases e <;> simp only [chkE, Bool.false_eq_true] at h
    simp only [Bool.and_eq_true] at h
    exact ⟨sE_ite ((iE_cc X g _ h.1.1.1).pt h.1.1.2) (iE_ca X g _ h.1.2).pe (iE_cb X g _ h.2).pe, fun n => by simp [noIf] at n⟩
theorem sSE_call {f : Nat} {cs : CEs} (iA_cs : SA G C k cs) : SE G C k (.call f cs) := fun X g e h => by
    cases e with
    | Call fe es kws pos =>
      cases fe with
      | Name x p =>
        cases kws with
        | nil =>
          simp only [chkE, Bool.and_eq_true] at h
          obtain ⟨d1, d2, _⟩ := dbg_ok h.1.1.1.2
          cases ef : G.nms.lookup f with
          | none => rw [ef] at h; simp at h
          | some fd =>
            rw [ef] at h
            simp only [decide_eq_true_eq] at h
            obtain ⟨nn, hn, fa, fdt, ps, h1, h2, h3, h4⟩ := g.fn f fd ef
            have ex := h.1.1.2
            rw [ex] at h1
            have hA := (iA_cs X g _ h.2).1
            have hst := h.1.2
            cases es with
            | nil =>
              cases cs with
              | nil => exact Snd.val (sE_call0 h4 hn g.room g.gd (glB_ok h.1.1.1.1) h1 h2 h3 d1) (by intro _; rfl)
              | cons c cs => simp [chkEs] at h
            | cons e es =>
              simp only [List.all_cons, Bool.and_eq_true] at hst
              exact Snd.val (sE_call h4 hn g.room g.gd (glB_ok h.1.1.1.1) h1 h2 h3 d1 hA hst.1 hst.2) (by intro _; rfl)
        | cons kw kws => simp [chkE] at h
      | _ => simp [chkE] at h
    | _ => simp [chkE] at h
theorem sSE_bf {b : BF} {cs : CEs} (iA_cs : SA G C k cs) : SE G C k (.bf b cs) := fun X g e h => by
    cases e with
    | Call fe es kws pos =>
      cases fe with
      | Name x p =>
        cases kws with
        | nil =>
          cases es with
          | nil => simp [chkE] at h
          | cons e es =>
            simp only [chkE, Bool.and_eq_true, decide_eq_true_eq, List.all_cons] at h
            have ex := h.1.1.1
            subst ex
            exact Snd.val (sE_bf g (glB_ok h.1.1.2) (iA_cs X g _ h.2).1 h.1.2.1 h.1.2.2) (by intro _; rfl)
        | cons kw kws => simp [chkE] at h
      | _ => simp [chkE] at h
    | _ => simp [chkE] at h
theorem sSE_isi {t : Ty} {c : CE} (iE_c : SE G C k c) : SE G C k (.isi t c) := fun X g e h => by
    cases e with
    | Call fe es kws pos =>
      cases fe with
      | Name x p =>
        cases kws with
        | nil =>
          rcases es with _ | ⟨e1, _ | ⟨e2, _ | ⟨e3, es⟩⟩⟩
          · simp [chkE] at h
          · simp [chkE] at h
          · cases e2 with
            | Name tn pt =>
              simp only [chkE, Bool.and_eq_true, decide_eq_true_eq] at h
              have ex := h.1.1.1.1.1
              subst ex
              have et := h.1.1.1.2
              subst et
              refine Snd.val (sE_isi (glB_ok h.1.1.1.1.2) (g.blt _ (by decide)) PyProof.Rows.boot_isinstance (glB_ok h.1.1.2) (g.blt _ (by cases t <;> decide)) (by cases t <;> decide +kernel) (by cases t <;> decide) (by cases t <;> decide) (iE_c X g _ h.2).pe h.1.2) (by intro _; rfl)
            | _ => simp [chkE] at h
          · cases e2 <;> simp [chkE] at h
        | cons kw kws => simp [chkE] at h
      | _ => simp [chkE] at h
    | _ => simp [chkE] at h
theorem sSE_idx {ca : CE} {cb : CE} (iE_ca : SE G C k ca) (iE_cb : SE G C k cb) : SE G C k (.idx ca cb) := fun X g e h => by
    cases e with
    | Subscript a b pos =>
      simp only [chkE, Bool.and_eq_true] at h
      exact Snd.val (sE_idx g.room (plain_ok h.1.1) (iE_ca X g _ h.1.2).pe (iE_cb X g _ h.2).pe) (by intro _; rfl)
    | _ => simp [chkE] at h
theorem sSE_slc {ca : CE} {lo : CO} {hi : CO} (iE_ca : SE G C k ca) (iO_lo : SO G C k lo) (iO_hi : SO G C k hi) : SE G C k (.slc ca lo hi) := fun X g e h => by
    cases e with
    | Subscript a b pos =>
      cases b with
      | Slice l u st p2 =>
        cases st with
        | none =>
          simp only [chkE, Bool.and_eq_true] at h
          exact Snd.val (sE_slc (iE_ca X g _ h.1.1).pe (iO_lo X g _ h.1.2) (iO_hi X g _ h.2)) (by intro _; rfl)
        | some s => simp [chkE] at h
      | _ => simp [chkE] at h
    | _ => simp [chkE] at h
theorem sSE_comp {e0 : CE} {t : Tg} {own : List Nat} {it : IT} {c : CO} (iE_e0 : SE G C k e0) (iI_it : SI G C k it) (iC_c : SC G C k c) : SE G C k (.comp e0 t own it c) := fun X g e h => by
    cases e with
    | ListComp elt gs scope pos =>
      rcases gs with _ | ⟨⟨tg, iter, ifs, asy⟩, _ | ⟨g2, gs⟩⟩
      · simp [chkE] at h
      · simp only [chkE, Bool.and_eq_true, beq_iff_eq] at h
        have hlam := h.2
        replace h := h.1
        have ea := h.1.1.1.1.1.1.1
        subst ea
        have hi := iI_it X g _ _ h.1.1.1.1.2
        have hk : X.env.scope.kind = .function := by
          have z := h.2
          split at z
          · assumption
          · cases z
        rw [← nmd_map X.N own]
        refine Snd.val (sE_comp g.calm g.nd hi.1 (blkOk_by h.1.1.1.1.1.1.2) (fun i hi => ?_) (fun s H Cc cl fp => ?_) (fun s H Cc cl fp => ?_) (fun s H Cc cl fp => ?_) hi.2) (by intro _; rfl)
        · have z := List.all_eq_true.mp h.1.1.1.1.1.2 i hi
          rw [nmd_map]
          simpa using z
        · exact sndG (X := X.blk s H scope (compEnvC scope cl Cc X.env) fp) g.calm g.nd (fn := fun x => scope.names.lookup x == some .cell) (fun x q => q) h.1.1.1.2
        · exact iC_c _ (g.blk s H scope cl Cc fp hlam) _ h.1.1.2
        · exact (iE_e0 _ (g.blk s H scope cl Cc fp hlam) _ h.1.2).pe
      · simp [chkE] at h
    | _ => simp [chkE] at h
theorem sSE_tab {x : Str} {t : List (Str × PyData)} {c : CE} (iE_c : SE G C k c) : SE G C k (.tab x t c) := fun X g e h => by
    cases e with
    | Subscript a b pos =>
      cases a with
      | Name y p =>
        simp only [chkE, Bool.and_eq_true, decide_eq_true_eq] at h
        obtain ⟨d1, d2, _⟩ := dbg_ok h.1.1.1.2
        have ey := h.1.1.1.1.1
        subst ey
        cases et : G.tabs.lookup x with
        | none => rw [et] at h; simp at h
        | some t' =>
          rw [et] at h
          simp only [Bool.and_eq_true, beq_iff_eq] at h
          have e2 := lookup_zip h.1.1.2.1 h.1.1.2.2
          subst e2
          obtain ⟨a, h1, h2⟩ := g.tab x _ et
          exact Snd.val (sE_tab (glB_ok h.1.1.1.1.2) h1 d1 h2 (iE_c X g _ h.2).pe (plain_ok h.1.2)) (by intro _; rfl)
      | _ => simp [chkE] at h
    | _ => simp [chkE] at h
theorem sSE_frz {c : CE} (iE_c : SE G C k c) : SE G C k (.frz c) := fun X g e h => by
    simp only [chkE] at h
    exact snd_frz (iE_c X g _ h)
theorem sSL_and {ca : CE} {cb : CE} (iE_ca : SE G C k ca) (iE_cb : SE G C k cb) (iL_cb : SL G C k cb) : SL G C k (.and ca cb) := fun isAnd X g es h => by
    cases isAnd with
    | false => rcases es with _ | ⟨e1, es⟩ <;> simp [chkL] at h
    | true =>
      rcases es with _ | ⟨e1, _ | ⟨e2, _ | ⟨e3, es⟩⟩⟩
      · simp [chkL] at h
      · simp only [chkL, Bool.and_eq_true] at h
        have z := h.2
        cases cb <;> simp [chkL] at z
      · simp only [chkL, Bool.and_eq_true] at h
        exact sL_and2 (iE_ca X g _ h.1.2.1) (iE_cb X g _ h.2.1) h.1.2.2 h.2.2
      · simp only [chkL, Bool.and_eq_true] at h
        exact sL_and (iE_ca X g _ h.1.2.1) (iL_cb true X g _ h.2) h.1.2.2
theorem sSL_or {ca : CE} {cb : CE} (iE_ca : SE G C k ca) (iE_cb : SE G C k cb) (iL_cb : SL G C k cb) : SL G C k (.or ca cb) := fun isAnd X g es h => by
    cases isAnd with
    | true => rcases es with _ | ⟨e1, es⟩ <;> simp [chkL] at h
    | false =>
      rcases es with _ | ⟨e1, _ | ⟨e2, _ | ⟨e3, es⟩⟩⟩
      · simp [chkL] at h
      · simp only [chkL, Bool.and_eq_true] at h
        have z := h.2
        cases cb <;> simp [chkL] at z
      · simp only [chkL, Bool.and_eq_true] at h
        exact sL_or2 (iE_ca X g _ h.1.2.1) (iE_cb X g _ h.2.1) h.1.2.2 h.2.2
      · simp only [chkL, Bool.and_eq_true] at h
        exact sL_or (iE_ca X g _ h.1.2.1) (iL_cb false X g _ h.2) h.1.2.2
theorem sSO_none   : SO G C k (.none ) := fun X g e h => by
    cases e <;> simp only [chkO, Bool.false_eq_true] at h
    exact sO_none
theorem sSO_some {c : CE} (iE_c : SE G C k c) : SO G C k (.some c) := fun X g e h => by
    cases e <;> simp only [chkO, Bool.false_eq_true] at h
    exact sO_some (iE_c X g _ h).pe
theorem sSC_none   : SC G C k (.none ) := fun X g es h => by
    cases es <;> simp only [chkC, Bool.false_eq_true] at h
    exact sTs_nil
theorem sSC_some {c : CE} (iE_c : SE G C k c) : SC G C k (.some c) := fun X g es h => by
    rcases es with _ | ⟨e, _ | ⟨e2, es⟩⟩ <;> simp only [chkC, Bool.false_eq_true] at h
    simp only [Bool.and_eq_true] at h
    exact sTs_one ((iE_c X g _ h.1).pt h.2)
theorem sSI_seq {c : CE} (iE_c : SE G C k c) : SI G C k (.seq c) := fun X g e tg h => by
    simp only [chkI, Bool.and_eq_true] at h
    exact ⟨sI_seq (iE_c X g _ h.1).pe, folded_ok h.2⟩
theorem sSI_rng1 {c : CE} (iE_c : SE G C k c) : SI G C k (.rng1 c) := fun X g e tg h => by
    cases e with
    | Call fe es kws pos =>
      cases fe with
      | Name x p =>
        cases kws with
        | nil =>
          rcases es with _ | ⟨e1, _ | ⟨e2, es⟩⟩ <;> simp only [chkI, Bool.false_eq_true] at h
          simp only [Bool.and_eq_true, decide_eq_true_eq] at h
          have ex := h.1.1.1
          subst ex
          exact ⟨sI_rng1 (glB_ok h.1.1.2) (g.blt _ (by decide)) (iE_c X g _ h.2).pe h.1.2, folded_ok rfl⟩
        | cons kw kws => rcases es with _ | ⟨e1, _ | ⟨e2, _ | ⟨e3, es⟩⟩⟩ <;> simp [chkI] at h
      | _ => simp [chkI] at h
    | _ => simp [chkI] at h
theorem sSI_rng2 {c : CE} {c2 : CE} (iE_c : SE G C k c) (iE_c2 : SE G C k c2) : SI G C k (.rng2 c c2) := fun X g e tg h => by
    cases e with
    | Call fe es kws pos =>
      cases fe with
      | Name x p =>
        cases kws with
        | nil =>
          rcases es with _ | ⟨e1, _ | ⟨e2, _ | ⟨e3, es⟩⟩⟩ <;> simp only [chkI, Bool.false_eq_true] at h
          simp only [Bool.and_eq_true, decide_eq_true_eq] at h
          have ex := h.1.1.1.1.1
          subst ex
          exact ⟨sI_rng2 (glB_ok h.1.1.1.1.2) (g.blt _ (by decide)) (iE_c X g _ h.1.2).pe (iE_c2 X g _ h.2).pe h.1.1.1.2 h.1.1.2, folded_ok rfl⟩
        | cons kw kws => rcases es with _ | ⟨e1, _ | ⟨e2, _ | ⟨e3, es⟩⟩⟩ <;> simp [chkI] at h
      | _ => simp [chkI] at h
    | _ => simp [chkI] at h
theorem sSI_enum {c : CE} (iE_c : SE G C k c) : SI G C k (.enum c) := fun X g e tg h => by
    cases e with
    | Call fe es kws pos =>
      cases fe with
      | Name x p =>
        cases kws with
        | nil =>
          rcases es with _ | ⟨e1, _ | ⟨e2, es⟩⟩ <;> simp only [chkI, Bool.false_eq_true] at h
          simp only [Bool.and_eq_true, decide_eq_true_eq] at h
          have ex := h.1.1.1.1
          subst ex
          have h6 := h.2
          cases tg <;> simp [isTup] at h6
          exact ⟨sI_enum (glB_ok h.1.1.1.2) (g.blt _ (by decide)) (iE_c X g _ h.1.2).pe h.1.1.2, folded_ok rfl⟩
        | cons kw kws => rcases es with _ | ⟨e1, _ | ⟨e2, _ | ⟨e3, es⟩⟩⟩ <;> simp [chkI] at h
      | _ => simp [chkI] at h
    | _ => simp [chkI] at h
theorem sSI_zip {c : CE} {c2 : CE} (iE_c : SE G C k c) (iE_c2 : SE G C k c2) : SI G C k (.zip c c2) := fun X g e tg h => by
    cases e with
    | Call fe es kws pos =>
      cases fe with
      | Name x p =>
        cases kws with
        | nil =>
          rcases es with _ | ⟨e1, _ | ⟨e2, _ | ⟨e3, es⟩⟩⟩ <;> simp only [chkI, Bool.false_eq_true] at h
          simp only [Bool.and_eq_true, decide_eq_true_eq] at h
          have ex := h.1.1.1.1.1.1
          subst ex
          have h6 := h.2
          cases tg <;> simp [isTup] at h6
          exact ⟨sI_zip (glB_ok h.1.1.1.1.1.2) (g.blt _ (by decide)) (iE_c X g _ h.1.1.2).pe (iE_c2 X g _ h.1.2).pe h.1.1.1.1.2 h.1.1.1.2, folded_ok rfl⟩
        | cons kw kws => rcases es with _ | ⟨e1, _ | ⟨e2, _ | ⟨e3, es⟩⟩⟩ <;> simp [chkI] at h
      | _ => simp [chkI] at h
    | _ => simp [chkI] at h
theorem sL_triv {c : CE} (h : ∀ isAnd N sc es, chkL G N isAnd c sc es = false) : SL G C k c := fun isAnd X g es q => by rw [h] at q; cases q
theorem keyB_len : ∀ {ks : List Str} {keys : List (Option Expr)}, keyB ks keys = true → ks.length = keys.length ∧ keys.all (·.isSome) = true
  | [], [], _ => ⟨rfl, rfl⟩
  | [], _ :: _, h => by simp [keyB] at h
  | _ :: _, [], h => by simp [keyB] at h
  | k :: ks, e :: es, h => by
    unfold keyB at h
    split at h
    all_goals try contradiction
    rename_i he hk
    cases he
    cases hk
    rw [Bool.and_eq_true] at h
    have q := keyB_len h.2
    exact ⟨by simp [q.1], by simpa using q.2⟩
theorem sSA_nil : SA G C k (.nil) := fun X g es h => by
    cases es <;> simp only [chkEs, Bool.false_eq_true] at h
    refine ⟨sA_nil, fun ks keys pos hk hl => ?_⟩
    have e := keyB_len hk
    cases keys with
    | nil =>
      cases ks with
      | nil => exact pps_nil
      | cons => simp at e
    | cons => simp at hl
theorem sSA_cons {c : CE} {cs : CEs} (iE_c : SE G C k c) (iA_cs : SA G C k cs) : SA G C k (.cons c cs) := fun X g es h => by
    cases es with
    | nil => simp [chkEs] at h
    | cons e es =>
      simp only [chkEs, Bool.and_eq_true] at h
      refine ⟨sA_cons (iE_c X g _ h.1.1).pe (iA_cs X g _ h.2).1 h.1.2, fun ks keys pos hk hl => ?_⟩
      cases keys with
      | nil => simp at hl
      | cons ke keys =>
        cases ks with
        | nil => simp [keyB] at hk
        | cons x ks =>
          unfold keyB at hk
          split at hk
          all_goals try contradiction
          rename_i q1 q2
          cases q1
          cases q2
          rw [Bool.and_eq_true] at hk
          have ex := of_decide_eq_true hk.1
          subst ex
          exact pps_cons pe_str (iE_c X g _ h.1.1).pe ((iA_cs X g _ h.2).2 _ _ _ hk.2 (by simpa using hl))
theorem sSE_dsp {ks : List Str} {cs : CEs} (iA_cs : SA G C k cs) : SE G C k (.dsp ks cs) := fun X g e h => by
    cases e <;> simp only [chkE, Bool.false_eq_true] at h
    simp only [Bool.and_eq_true, decide_eq_true_eq, Bool.not_eq_true'] at h
    obtain ⟨⟨⟨⟨⟨h1, h2⟩, h3⟩, h4⟩, h5⟩, h6⟩ := h
    have e := keyB_len h1
    refine Snd.val (sE_dsp ((iA_cs X g _ h6).2 _ _ _ h1 h2) e.2 h2 (fun z => by rw [z] at h3; cases h3) h4 e.1 h5) (by intro _; rfl)
theorem sSE_rev {c : CE} (i : SE G C k c) : SE G C k (.rev c) := fun X g e h => by
    unfold chkE at h
    split at h
    all_goals try contradiction
    rename_i he
    cases he
    simp only [Bool.and_eq_true, decide_eq_true_eq] at h
    obtain ⟨rfl, h2⟩ := h
    exact Snd.val (sE_rev (i X g _ h2).pe) (by intro _; rfl)
theorem sSE_pop0 {c : CE} (i : SE G C k c) : SE G C k (.pop0 c) := fun X g e h => by
    unfold chkE at h
    split at h
    all_goals try contradiction
    rename_i he
    cases he
    simp only [Bool.and_eq_true, decide_eq_true_eq] at h
    obtain ⟨⟨⟨rfl, h2⟩, h3⟩, h4⟩ := h
    exact Snd.val (sE_pop0 (i X g _ h4).pe h2 h3) (by intro _; rfl)
theorem sSE_pop1 {c d : CE} (i : SE G C k c) (j : SE G C k d) : SE G C k (.pop1 c d) := fun X g e h => by
    unfold chkE at h
    split at h
    all_goals try contradiction
    rename_i he
    cases he
    simp only [Bool.and_eq_true, decide_eq_true_eq] at h
    obtain ⟨⟨⟨⟨⟨rfl, h2⟩, h3⟩, h4⟩, h5⟩, h6⟩ := h
    exact Snd.val (sE_pop1 (i X g _ h5).pe (j X g _ h6).pe h2 h3 h4) (by intro _; rfl)
theorem sSE_lrg {c : CE} (i : SE G C k c) : SE G C k (.lrg c) := fun X g e h => by
    unfold chkE at h
    split at h
    all_goals try contradiction
    rename_i he
    cases he
    simp only [Bool.and_eq_true, decide_eq_true_eq] at h
    obtain ⟨⟨⟨⟨⟨rfl, h2⟩, rfl⟩, h4⟩, h5⟩, h6⟩ := h
    exact Snd.val (sE_lrg g.calm (glB_ok h2) (g.blt _ (by decide)) (glB_ok h4) (g.blt _ (by decide)) (i X g _ h6).pe h5) (by intro _; rfl)
theorem sSE_lsd {c : CE} (i : SE G C k c) : SE G C k (.lsd c) := fun X g e h => by
    unfold chkE at h
    split at h
    all_goals try contradiction
    rename_i he
    cases he
    simp only [Bool.and_eq_true, decide_eq_true_eq] at h
    obtain ⟨⟨⟨rfl, h2⟩, h5⟩, h6⟩ := h
    exact Snd.val (sE_lsd g.calm (glB_ok h2) (g.blt _ (by decide)) (i X g _ h6).pe h5) (by intro _; rfl)
theorem sSE_bfm {b : BF} {cs : CEs} (i : SA G C k cs) : SE G C k (.bfm b cs) := fun X g e h => by
    unfold chkE at h
    split at h
    all_goals try contradiction
    rename_i he
    cases he
    simp only [Bool.and_eq_true, decide_eq_true_eq, List.all_cons] at h
    obtain ⟨⟨⟨⟨h1, rfl⟩, h3⟩, h4, h5⟩, h6⟩ := h
    have hm := blt_of g b
    cases b with
    | sorted => exact Snd.val (PE_wk (pe_callB (m_sorted g.room) (glB_ok h3) hm (by decide +kernel) (i X g _ h6).1 (by decide) (by decide) (star_cons h4) (back_any h5)) fun σ H Q o => mk_rd o) (by intro _; rfl)
    | list => exact Snd.val (PE_wk (pe_callTy m_list (glB_ok h3) hm (by decide +kernel) (i X g _ h6).1 (by decide) (by decide) (star_cons h4) (back_any h5)) fun σ H Q o => mk_rd o) (by intro _; rfl)
    | _ => cases h1
theorem sSE_tb0 : SE G C k .tb0 := fun X g e h => by
    unfold chkE at h
    split at h
    all_goals try contradiction
    exact Snd.val sE_tb0 (by intro _; rfl)
theorem sSE_tb1 {ck cv : CE} (ik : SE G C k ck) (iv : SE G C k cv) : SE G C k (.tb1 ck cv) := fun X g e h => by
    unfold chkE at h
    split at h
    all_goals try contradiction
    rename_i he
    cases he
    simp only [Bool.and_eq_true] at h
    exact Snd.val (sE_tb1 g.room (ik X g _ h.1).pe (iv X g _ h.2).pe) (by intro _; rfl)
theorem sSE_isx {c : Str} {ca : CE} (i : SE G C k ca) : SE G C k (.isx c ca) := fun X g e h => by
    unfold chkE at h
    split at h
    all_goals try contradiction
    rename_i he
    cases he
    simp only [Bool.and_eq_true, decide_eq_true_eq] at h
    obtain ⟨⟨⟨⟨⟨⟨⟨⟨h1, rfl⟩, h3⟩, rfl⟩, h5⟩, h6⟩, h7⟩, h8⟩, h9⟩ := h
    obtain ⟨q, hq⟩ := Option.isSome_iff_exists.mp h7
    exact Snd.val (sE_isx (g.err h1) hq (glB_ok h3) (g.blt _ (by decide)) PyProof.Rows.boot_isinstance (glB_ok h5) (dbg_ok h6).1 (i X g _ h9).pe h8) (by intro _; rfl)
theorem sSE_fld {f : Str} {ca : CE} (i : SE G C k ca) : SE G C k (.fld f ca) := fun X g e h => by
    unfold chkE at h
    split at h
    all_goals try contradiction
    rename_i he
    cases he
    simp only [Bool.and_eq_true, decide_eq_true_eq] at h
    obtain ⟨⟨⟨h1, rfl⟩, h3⟩, h4⟩ := h
    exact Snd.val (sE_fld (g.err h1) (i X g _ h4).pe (base_ok h3)) (by intro _; rfl)
variable (G : GI) (C : Calls) (k : Nat) in
def SaidH : Prop := G.said = true → ∀ c : CE, SE G C k c → SE G C k (.said c)
theorem sSE_said (hS : SaidH G C k) {ca : CE} (i : SE G C k ca) : SE G C k (.said ca) := fun X g e h => by
    by_cases hs : G.said = true
    · exact hS hs ca i X g e h
    · exfalso
      unfold chkE at h
      split at h
      all_goals try contradiction
      simp only [Bool.and_eq_true] at h
      exact hs h.1.1.1.1.1
section
variable (hS : SaidH G C k)
include hS
mutual
theorem snd : ∀ c : CE, SE G C k c
  | .var i => sSE_var 
  | .cst p => sSE_cst 
  | .tup cs => sSE_tup (sndA cs)
  | .lst cs => sSE_lst (sndA cs)
  | .mk cs => sSE_mk (sndA cs)
  | .bin o ca cb => sSE_bin (snd ca) (snd cb)
  | .neg ca => sSE_neg (snd ca)
  | .nt ca => sSE_nt (snd ca)
  | .and ca cb => sSE_and (snd ca) (snd cb) (sndL cb)
  | .or ca cb => sSE_or (snd ca) (snd cb) (sndL cb)
  | .cmp o ca cb => sSE_cmp (snd ca) (snd cb)
  | .chn o o' ca cb cc => sSE_chn (snd ca) (snd cb) (snd cc)
  | .ite cc ca cb => sSE_ite (snd cc) (snd ca) (snd cb)
  | .call f cs => sSE_call (sndA cs)
  | .bf b cs => sSE_bf (sndA cs)
  | .isi t c => sSE_isi (snd c)
  | .idx ca cb => sSE_idx (snd ca) (snd cb)
  | .slc ca lo hi => sSE_slc (snd ca) (sndO lo) (sndO hi)
  | .comp e0 t own it c => sSE_comp (snd e0) (sndI it) (sndC c)
  | .tab x t c => sSE_tab (snd c)
  | .frz c => sSE_frz (snd c)
  | .dsp ks cs => sSE_dsp (sndA cs)
  | .tb0 => sSE_tb0
  | .tb1 a b => sSE_tb1 (snd a) (snd b)
  | .rev a => sSE_rev (snd a)
  | .pop0 a => sSE_pop0 (snd a)
  | .pop1 a b => sSE_pop1 (snd a) (snd b)
  | .bfm b cs => sSE_bfm (sndA cs)
  | .lrg c => sSE_lrg (snd c)
  | .lsd c => sSE_lsd (snd c)
  | .said c => sSE_said hS (snd c)
  | .isx x c => sSE_isx (snd c)
  | .fld f c => sSE_fld (snd c)
theorem sndL : ∀ c : CE, SL G C k c
  | .and ca cb => sSL_and (snd ca) (snd cb) (sndL cb)
  | .or ca cb => sSL_or (snd ca) (snd cb) (sndL cb)
  | .var _ => sL_triv fun _ _ _ _ => by simp [chkL]
  | .cst _ => sL_triv fun _ _ _ _ => by simp [chkL]
  | .tup _ => sL_triv fun _ _ _ _ => by simp [chkL]
  | .lst _ => sL_triv fun _ _ _ _ => by simp [chkL]
  | .mk _ => sL_triv fun _ _ _ _ => by simp [chkL]
  | .bin _ _ _ => sL_triv fun _ _ _ _ => by simp [chkL]
  | .neg _ => sL_triv fun _ _ _ _ => by simp [chkL]
  | .nt _ => sL_triv fun _ _ _ _ => by simp [chkL]
  | .cmp _ _ _ => sL_triv fun _ _ _ _ => by simp [chkL]
  | .chn _ _ _ _ _ => sL_triv fun _ _ _ _ => by simp [chkL]
  | .ite _ _ _ => sL_triv fun _ _ _ _ => by simp [chkL]
  | .call _ _ => sL_triv fun _ _ _ _ => by simp [chkL]
  | .bf _ _ => sL_triv fun _ _ _ _ => by simp [chkL]
  | .isi _ _ => sL_triv fun _ _ _ _ => by simp [chkL]
  | .idx _ _ => sL_triv fun _ _ _ _ => by simp [chkL]
  | .slc _ _ _ => sL_triv fun _ _ _ _ => by simp [chkL]
  | .comp _ _ _ _ _ => sL_triv fun _ _ _ _ => by simp [chkL]
  | .tab _ _ _ => sL_triv fun _ _ _ _ => by simp [chkL]
  | .frz _ => sL_triv fun _ _ _ _ => by simp [chkL]
  | .dsp _ _ => sL_triv fun _ _ _ _ => by simp [chkL]
  | .tb0 => sL_triv fun _ _ _ _ => by simp [chkL]
  | .tb1 _ _ => sL_triv fun _ _ _ _ => by simp [chkL]
  | .rev _ => sL_triv fun _ _ _ _ => by simp [chkL]
  | .pop0 _ => sL_triv fun _ _ _ _ => by simp [chkL]
  | .pop1 _ _ => sL_triv fun _ _ _ _ => by simp [chkL]
  | .bfm _ _ => sL_triv fun _ _ _ _ => by simp [chkL]
  | .lrg _ => sL_triv fun _ _ _ _ => by simp [chkL]
  | .lsd _ => sL_triv fun _ _ _ _ => by simp [chkL]
  | .said _ => sL_triv fun _ _ _ _ => by simp [chkL]
  | .isx _ _ => sL_triv fun _ _ _ _ => by simp [chkL]
  | .fld _ _ => sL_triv fun _ _ _ _ => by simp [chkL]
theorem sndA : ∀ c : CEs, SA G C k c
  | .nil  => sSA_nil 
  | .cons c cs => sSA_cons (snd c) (sndA cs)
theorem sndO : ∀ c : CO, SO G C k c
  | .none  => sSO_none 
  | .some c => sSO_some (snd c)
theorem sndC : ∀ c : CO, SC G C k c
  | .none  => sSC_none 
  | .some c => sSC_some (snd c)
theorem sndI : ∀ c : IT, SI G C k c
  | .seq c => sSI_seq (snd c)
  | .rng1 c => sSI_rng1 (snd c)
  | .rng2 c c2 => sSI_rng2 (snd c) (snd c2)
  | .enum c => sSI_enum (snd c)
  | .zip c c2 => sSI_zip (snd c) (snd c2)
end
end
end
end L2.LC

set_option maxHeartbeats 4000000
/-! LC: statements and defs by the checker. -/
namespace L2.LC
open PySem PySem.Spec PyProof.Rows
/-- does y = [..] swap -/
def swB (sc scope : Scope) (y : Str) (py pos : Pos) : Bool := (match sc.names.lookup y with | some .local => true | _ => false) && (py.line == pos.line) && !(scope.names.any fun (n, k) => n == y && (k == .local || k == .cell))
theorem sw_comp {elt : Expr} {gs : List Comprehension} {scope : Scope} {pos py : Pos} {y : Str} {l : Nat} {env : Env} (hk : env.scope.kind = .function) : swapsWith (.ListComp elt gs scope pos) (some (.Name y py)) l env = pure (swB env.scope scope y py pos) := by
  have hb : env.blockKind = .function := by unfold Env.blockKind; rw [hk]; rfl
  unfold swapsWith swB
  simp only [hb, Expr.pos, Env.kindOf]
  cases env.scope.names.lookup y with
  | none => rfl
  | some kd => cases kd <;> rfl
def locB (sc : Scope) (x : Str) : Bool := match sc.names.lookup x with
  | some .local => true
  | _ => false
theorem locB_ok {sc : Scope} {x : Str} (h : locB sc x = true) : sc.names.lookup x = some .local := by
  unfold locB at h
  split at h
  · assumption
  · cases h
theorem sw_par {x y : Str} {a b : Expr} {px py pt pt2 : Pos} {kt k2 : Nat} {env : Env} (hk : env.scope.kind = .function) (hx : locB env.scope x = true) (hy : locB env.scope y = true) (hl : (py.line == px.line) = true) (hne : (x == y) = false) (hsa : notStar a = true) (hsb : notStar b = true)
    (hf : [a, b].all (foldedForSure 8) = false) (hc : [a, b].all (constantsAlone 8) = false) : swappedStores [.Tuple [.Name x px, .Name y py] kt pt] (.Tuple [a, b] k2 pt2) env = pure (some [x, y]) := by
  have hb : env.blockKind = .function := by unfold Env.blockKind; rw [hk]; rfl
  have h1 : env.kindOf x = some .local := locB_ok hx
  have h2 : env.kindOf y = some .local := locB_ok hy
  have hst : ([a, b].any fun | .Starred .. => true | _ => false) = false := by
    cases a <;> first | (simp [notStar] at hsa; done) | skip
    all_goals (cases b <;> first | (simp [notStar] at hsb; done) | rfl)
  have ne : ¬ x = y := by simpa using hne
  have hd : [x, y].eraseDups = [x, y] := by
    have : (y == x) = false := by
      rw [beq_eq_false_iff_ne]
      exact fun e => ne e.symm
    simp [List.eraseDups_cons, this]
  have hn : ([Expr.Name x px, Expr.Name y py].filterMap fun
    | .Name id pos => if (env.kindOf id == some .local && pos.line == px.line) = true then some id else none
    | _ => none) = [x, y] := by
    simp only [List.filterMap_cons, h1, h2, hl, List.filterMap_nil]
    simp
  have e : swappedStores [.Tuple [.Name x px, .Name y py] kt pt] (.Tuple [a, b] k2 pt2) env = (do
      if (!(([Expr.Name x px, Expr.Name y py].length == 2) || ([Expr.Name x px, Expr.Name y py].length == 3)) || [a, b].length != [Expr.Name x px, Expr.Name y py].length || env.blockKind != .function) = true then return none
      if ([a, b].any fun | .Starred .. => true | _ => false) = true then return none
      if ((([Expr.Name x px, Expr.Name y py].filterMap fun
    | .Name id pos => if (env.kindOf id == some .local && pos.line == px.line) = true then some id else none
    | _ => none).length != [Expr.Name x px, Expr.Name y py].length) || ((([Expr.Name x px, Expr.Name y py].filterMap fun
    | .Name id pos => if (env.kindOf id == some .local && pos.line == px.line) = true then some id else none
    | _ => none).eraseDups.length != ([Expr.Name x px, Expr.Name y py].filterMap fun
    | .Name id pos => if (env.kindOf id == some .local && pos.line == px.line) = true then some id else none
    | _ => none).length))) = true then return none
      if ([a, b].all (foldedForSure 8)) = true then return none
      if ([a, b].all (constantsAlone 8)) = true then unsupported "assign.tuple-of-constant-expressions:order-of-the-stores"
      return some ([Expr.Name x px, Expr.Name y py].filterMap fun
    | .Name id pos => if (env.kindOf id == some .local && pos.line == px.line) = true then some id else none
    | _ => none)) := rfl
  rw [e, hn, hd, hb, hst, hf, hc]
  rfl

theorem nst_cons {e : Expr} {es : List Expr} (h : notStar e = true) (hs : (es.any fun | .Starred .. => true | _ => false) = false) : ((e :: es).any fun | .Starred .. => true | _ => false) = false := by
  rw [List.any_cons, hs, Bool.or_false]
  cases e <;> first | rfl | (simp [notStar] at h)
theorem sw_par3 {x y z : Str} {a b c : Expr} {px py pz pt pt2 : Pos} {kt k2 : Nat} {env : Env} (hk : env.scope.kind = .function) (hx : locB env.scope x = true) (hy : locB env.scope y = true) (hz : locB env.scope z = true) (hl : (py.line == px.line) = true) (hl2 : (pz.line == px.line) = true) (hxy : (x == y) = false) (hxz : (x == z) = false) (hyz : (y == z) = false) (hsa : notStar a = true) (hsb : notStar b = true) (hsc : notStar c = true)
    (hf : [a, b, c].all (foldedForSure 8) = false) (hc : [a, b, c].all (constantsAlone 8) = false) : swappedStores [.Tuple [.Name x px, .Name y py, .Name z pz] kt pt] (.Tuple [a, b, c] k2 pt2) env = pure (some [x, y, z]) := by
  have hb : env.blockKind = .function := by unfold Env.blockKind; rw [hk]; rfl
  have h1 : env.kindOf x = some .local := locB_ok hx
  have h2 : env.kindOf y = some .local := locB_ok hy
  have h3 : env.kindOf z = some .local := locB_ok hz
  have hst : ([a, b, c].any fun | .Starred .. => true | _ => false) = false := nst_cons hsa (nst_cons hsb (nst_cons hsc rfl))
  have sym : ∀ {u v : Str}, (u == v) = false → (v == u) = false := fun {u v} h => by
    rw [beq_eq_false_iff_ne] at h ⊢
    exact fun e => h e.symm
  have hd : [x, y, z].eraseDups = [x, y, z] := by simp [List.eraseDups_cons, sym hxy, sym hxz, sym hyz]
  have hn : ([Expr.Name x px, Expr.Name y py, Expr.Name z pz].filterMap fun
    | .Name id pos => if (env.kindOf id == some .local && pos.line == px.line) = true then some id else none
    | _ => none) = [x, y, z] := by
    simp only [List.filterMap_cons, h1, h2, h3, hl, hl2, List.filterMap_nil]
    simp
  have e : swappedStores [.Tuple [.Name x px, .Name y py, .Name z pz] kt pt] (.Tuple [a, b, c] k2 pt2) env = (do
      if (!(([Expr.Name x px, Expr.Name y py, Expr.Name z pz].length == 2) || ([Expr.Name x px, Expr.Name y py, Expr.Name z pz].length == 3)) || [a, b, c].length != [Expr.Name x px, Expr.Name y py, Expr.Name z pz].length || env.blockKind != .function) = true then return none
      if ([a, b, c].any fun | .Starred .. => true | _ => false) = true then return none
      if ((([Expr.Name x px, Expr.Name y py, Expr.Name z pz].filterMap fun
    | .Name id pos => if (env.kindOf id == some .local && pos.line == px.line) = true then some id else none
    | _ => none).length != [Expr.Name x px, Expr.Name y py, Expr.Name z pz].length) || ((([Expr.Name x px, Expr.Name y py, Expr.Name z pz].filterMap fun
    | .Name id pos => if (env.kindOf id == some .local && pos.line == px.line) = true then some id else none
    | _ => none).eraseDups.length != ([Expr.Name x px, Expr.Name y py, Expr.Name z pz].filterMap fun
    | .Name id pos => if (env.kindOf id == some .local && pos.line == px.line) = true then some id else none
    | _ => none).length))) = true then return none
      if ([a, b, c].all (foldedForSure 8)) = true then return none
      if ([a, b, c].all (constantsAlone 8)) = true then unsupported "assign.tuple-of-constant-expressions:order-of-the-stores"
      return some ([Expr.Name x px, Expr.Name y py, Expr.Name z pz].filterMap fun
    | .Name id pos => if (env.kindOf id == some .local && pos.line == px.line) = true then some id else none
    | _ => none)) := rfl
  rw [e, hn, hd, hb, hst, hf, hc]
  rfl
/-- a display on the right that is no swap -/
def swNone (ts : List Expr) : Expr → Bool
  | .Tuple es _ _ => !(ts.length == 2 || ts.length == 3) || es.length != ts.length || es.all (foldedForSure 8)
  | _ => true
theorem sw_none {ts : List Expr} {e : Expr} {k : Nat} {p : Pos} {env : Env} (h : swNone ts e = true) : swappedStores [.Tuple ts k p] e env = pure none := by
  cases e with
  | Tuple es k2 p2 =>
    change (!(ts.length == 2 || ts.length == 3) || es.length != ts.length || es.all (foldedForSure 8)) = true at h
    unfold swappedStores
    simp only []
    by_cases h1 : (!(ts.length == 2 || ts.length == 3) || es.length != ts.length || env.blockKind != .function) = true
    · simp only [h1, if_true]
    · have h1' := h1
      simp only [Bool.not_eq_true] at h1
      have hf : es.all (foldedForSure 8) = true := by
        rw [Bool.or_eq_false_iff] at h1
        rw [h1.1, Bool.false_or] at h
        exact h
      simp only [h1, Bool.false_eq_true, if_false, hf, if_true]
      split
      · rfl
      · split <;> rfl
  | _ => rfl

variable (G : GI) (N : List Str) (sc : Scope) in
mutual
def chkS : CS → Stmt → Bool
  | .asg (.name i) c, .Assign [.Name x p] e _ => decide (N[i]? = some x) && stB (fun _ => true) sc x && chkE G N c sc e && (match e, c with
    | .ListComp _ _ scope pos, .comp .. => true
    | .ListComp _ _ scope pos, _ => !swB sc scope x p pos
    | _, _ => !isComp e)
  | .asg t c, .Assign [.Tuple es k p] e _ => chkG N (fun _ => true) sc t (.Tuple es k p) && chkE G N c sc e && !isComp e && swNone es e
  | .par i j a b, .Assign [.Tuple [.Name x px, .Name y py] _ _] (.Tuple [ea, eb] _ _) _ => decide (N[i]? = some x) && decide (N[j]? = some y) && !(i == j) && locB sc x && locB sc y && (py.line == px.line) && !(x == y) && notStar ea && notStar eb &&
      !([ea, eb].all (foldedForSure 8)) && !([ea, eb].all (constantsAlone 8)) && chkE G N a sc ea && chkE G N b sc eb
  | .par3 i j l a b c, .Assign [.Tuple [.Name x px, .Name y py, .Name z pz] _ _] (.Tuple [ea, eb, ec] _ _) _ => (decide (N[i]? = some x) && decide (N[j]? = some y) && decide (N[l]? = some z) && !(i == j) && !(i == l) && !(j == l)) && (locB sc x && locB sc y && locB sc z && (py.line == px.line) && (pz.line == px.line) && !(x == y) && !(x == z) && !(y == z)) && (notStar ea && notStar eb && notStar ec &&
      !([ea, eb, ec].all (foldedForSure 8)) && !([ea, eb, ec].all (constantsAlone 8))) && (chkE G N a sc ea && chkE G N b sc eb && chkE G N c sc ec)
  | .app l v, .Expr (.Call (.Attribute o attr apos) [e] [] cpos) _ => decide (attr = "append") && notSuper o && notStar e && (apos.endLine == cpos.line) && chkE G N l sc o && chkE G N v sc e
  | .ext l v, .Expr (.Call (.Attribute o attr apos) [e] [] cpos) _ => decide (attr = "extend") && notSuper o && notStar e && (apos.endLine == cpos.line) && chkE G N l sc o && chkE G N v sc e
  | .put d k v, .Assign [.Subscript o i _] e _ => chkE G N d sc o && chkE G N k sc i && chkE G N v sc e && !isComp e && notSlice i
  | .ret c, .Return (some e) _ => chkE G N c sc e
  | .cond c a b, .If e sa sb _ => chkE G N c sc e && noIf e && chkSs a sa && chkSs b sb
  | .loop t it b, .For tg iter body [] _ => chkI G N it sc iter tg && chkG N (fun _ => true) sc t tg && chkSs b body
  | .whl c b, .While e body [] _ => chkE G N c sc e && noIf e && chkSs b body
  | .drop c, .Expr e _ => chkE G N c sc e && !isComp e
  | .rse x c, .Raise (some (.Call (.Name y _) [e] [] _)) none _ => G.rs.contains x && decide (y = x) && glB sc x && notDbg x && notStar e && (match errRow x with
    | some r => (match r.fld with
      | some _ => chkE G N c sc e
      | none => (match e, c with
        | .Constant (.str m) _ _, .cst (.str m') => decide (m = m')
        | _, _ => false))
    | none => false)
  | .never, _ => true
  | _, _ => false
def chkSs : CSs → List Stmt → Bool
  | .nil, [] => true
  | .cons .never .nil, _ => true
  | .cons (.fz _) cs, ss => chkSs cs ss
  | .cons c cs, s :: ss => chkS c s && chkSs cs ss
  | _, _ => false
end
structure GoodS (G : GI) (C : Calls) (k : Nat) (X : Cx) : Prop extends GoodX G C k X where
  fnT : ∀ x, X.fn x = true
  po : PassesOwn (model X.prog X.w) X.A X.env X.xe
  kind : X.env.scope.kind = .function
section
variable {G : GI} {C : Calls} {k : Nat}
variable (G C k) in
def ZS (c : CS) : Prop := ∀ X, GoodS G C k X → ∀ s, chkS G X.N X.env.scope c s = true → PS X s (tF X.kw (evS C c))
variable (G C k) in
def ZSs (c : CSs) : Prop := ∀ X, GoodS G C k X → ∀ s, chkSs G X.N X.env.scope c s = true → PSs X s (tF X.kw (evSs C c))
variable (hS : SaidH G C k)
include hS
theorem zS_asg {t : Tg} {c : CE} : ZS G C k (.asg t c) := fun X g s h => by
  cases s with
  | Assign ts e pos =>
    rcases ts with _ | ⟨tg, _ | ⟨tg2, ts⟩⟩
    · cases t <;> simp [chkS] at h
    · cases tg with
      | Name x p =>
        cases t with
        | tup ts => simp [chkS] at h
        | name i =>
          simp only [chkS, Bool.and_eq_true, decide_eq_true_eq] at h
          obtain ⟨h1, h2⟩ := st_ok (X := X) (fn := fun _ => true) (fun x _ => g.fnT x) h.1.1.2
          have hE := snd hS c X g.toGoodX e h.1.2
          by_cases hc : isComp e = false
          · exact sS_set g.nd h.1.1.1 h1 h2 hE.pe (sw_false hc)
          · cases e <;> first | (simp [isComp] at hc; done) | skip
            · rename_i elt gs scope epos
              have hsw := sw_comp (elt := elt) (gs := gs) (scope := scope) (pos := epos) (py := p) (y := x) (l := pos.line) g.kind
              cases hb : swB X.env.scope scope x p epos with
              | false => rw [hb] at hsw; exact sS_set g.nd h.1.1.1 h1 h2 hE.pe hsw
              | true =>
                rw [hb] at hsw
                have hloc : X.env.scope.names.lookup x = some .local := by
                  have z := hb
                  unfold swB at z
                  simp only [Bool.and_eq_true] at z
                  have z1 := z.1.1
                  split at z1
                  · assumption
                  · cases z1
                cases c with
                | comp e0 t own it c =>
                  have hq := h.1.2
                  rcases gs with _ | ⟨⟨tg, iter, ifs, asy⟩, _ | ⟨g2, gs⟩⟩
                  · simp [chkE] at hq
                  · simp only [chkE, Bool.and_eq_true, beq_iff_eq] at hq
                    have hlam := hq.2
                    replace hq := hq.1
                    have ea := hq.1.1.1.1.1.1.1
                    subst ea
                    have hi := sndI hS it X g.toGoodX _ _ hq.1.1.1.1.2
                    rw [← nmd_map X.N own]
                    refine sS_setLc g.calm g.nd h.1.1.1 hloc hsw hi.1 (blkOk_by hq.1.1.1.1.1.1.2) (fun i hi => ?_) (fun s H Cc cl fp => ?_) (fun s H Cc cl fp => ?_) (fun s H Cc cl fp => ?_) hi.2
                    · have z := List.all_eq_true.mp hq.1.1.1.1.1.2 i hi
                      rw [nmd_map]
                      simpa using z
                    · exact sndG (X := X.blk s H scope (compEnvC scope cl Cc X.env) fp) g.calm g.nd (fn := fun x => scope.names.lookup x == some .cell) (fun x q => q) hq.1.1.1.2
                    · exact sndC hS c _ (g.toGoodX.blk s H scope cl Cc fp hlam) _ hq.1.1.2
                    · exact (snd hS e0 _ (g.toGoodX.blk s H scope cl Cc fp hlam) _ hq.1.2).pe
                  · simp [chkE] at hq
                | _ =>
                  have z := h.2
                  simp only [hb] at z
                  cases z
            · have z := h.2
              cases c <;> simp [isComp] at z
            · have z := h.2
              cases c <;> simp [isComp] at z
      | Tuple es kk p =>
        have h' : (chkG X.N (fun _ => true) X.env.scope t (.Tuple es kk p) && chkE G X.N c X.env.scope e && !isComp e && swNone es e) = true := by
          cases t <;> simpa only [chkS] using h
        simp only [Bool.and_eq_true, Bool.not_eq_true'] at h'
        refine sS_asg (snd hS c X g.toGoodX e h'.1.1.2).pe (sndG g.calm g.nd (fn := fun _ => true) (fun x _ => g.fnT x) h'.1.1.1) (by simp only [swapsWithSole]; exact sw_false h'.1.2) ?_ rfl
        exact sw_none h'.2
      | _ => cases t <;> simp [chkS] at h
    · cases t <;> cases tg <;> simp [chkS] at h
  | _ => cases t <;> simp [chkS] at h
theorem zS_par {i j : Nat} {a b : CE} : ZS G C k (.par i j a b) := fun X g s h => by
  unfold chkS at h
  split at h
  all_goals try contradiction
  · rename_i i' j' a' b' x px y py _ _ ea eb _ _ _ he
    cases he
    simp only [Bool.and_eq_true, decide_eq_true_eq, Bool.not_eq_true'] at h
    obtain ⟨⟨⟨⟨⟨⟨⟨⟨⟨⟨⟨⟨hi, hj⟩, hij⟩, hx⟩, hy⟩, hl⟩, hne⟩, hsa⟩, hsb⟩, hf⟩, hc⟩, ha⟩, hb⟩ := h
    exact sS_par g.calm g.nd hi hj (by simpa using hij) (locB_ok hx) (locB_ok hy) (snd hS a X g.toGoodX ea ha).pe (snd hS b X g.toGoodX eb hb).pe hsa hsb (sw_par g.kind hx hy hl hne hsa hsb hf hc)
theorem zS_par3 {i j l : Nat} {a b c : CE} : ZS G C k (.par3 i j l a b c) := fun X g s h => by
  unfold chkS at h
  split at h
  all_goals try contradiction
  · rename_i he
    cases he
    simp only [Bool.and_eq_true, decide_eq_true_eq, Bool.not_eq_true'] at h
    obtain ⟨⟨⟨⟨⟨⟨⟨⟨hi, hj⟩, hl⟩, hij⟩, hil⟩, hjl⟩, ⟨⟨⟨⟨⟨⟨⟨hx, hy⟩, hz⟩, hp⟩, hp2⟩, hxy⟩, hxz⟩, hyz⟩⟩, ⟨⟨⟨⟨hsa, hsb⟩, hsc⟩, hf⟩, hcn⟩⟩, ⟨⟨ha, hb⟩, hcc⟩⟩ := h
    exact sS_par3 g.calm g.nd hi hj hl (by simpa using hij) (by simpa using hil) (by simpa using hjl) (locB_ok hx) (locB_ok hy) (locB_ok hz) (snd hS a X g.toGoodX _ ha).pe (snd hS b X g.toGoodX _ hb).pe (snd hS c X g.toGoodX _ hcc).pe hsa hsb hsc (sw_par3 g.kind hx hy hz hp hp2 hxy hxz hyz hsa hsb hsc hf hcn)
theorem zS_app {l v : CE} : ZS G C k (.app l v) := fun X g s h => by
  cases s with
  | Expr e pos =>
    cases e with
    | Call fe es kws cpos =>
      cases fe with
      | Attribute o attr apos =>
        cases kws with
        | cons kw kws => rcases es with _ | ⟨e1, _ | ⟨e2, es⟩⟩ <;> simp [chkS] at h
        | nil =>
          rcases es with _ | ⟨e1, _ | ⟨e2, es⟩⟩ <;> simp only [chkS, Bool.false_eq_true] at h
          simp only [Bool.and_eq_true, decide_eq_true_eq] at h
          have ea := h.1.1.1.1.1
          subst ea
          exact sS_app (snd hS l X g.toGoodX o h.1.2).pe (snd hS v X g.toGoodX e1 h.2).pe h.1.1.1.1.2 h.1.1.1.2 h.1.1.2
      | _ => simp [chkS] at h
    | _ => simp [chkS] at h
  | _ => simp [chkS] at h
theorem zS_ext {l v : CE} : ZS G C k (.ext l v) := fun X g s h => by
  cases s with
  | Expr e pos =>
    cases e with
    | Call fe es kws cpos =>
      cases fe with
      | Attribute o attr apos =>
        cases kws with
        | cons kw kws => rcases es with _ | ⟨e1, _ | ⟨e2, es⟩⟩ <;> simp [chkS] at h
        | nil =>
          rcases es with _ | ⟨e1, _ | ⟨e2, es⟩⟩ <;> simp only [chkS, Bool.false_eq_true] at h
          simp only [Bool.and_eq_true, decide_eq_true_eq] at h
          have ea := h.1.1.1.1.1
          subst ea
          exact sS_ext (snd hS l X g.toGoodX o h.1.2).pe (snd hS v X g.toGoodX e1 h.2).pe h.1.1.1.1.2 h.1.1.1.2 h.1.1.2
      | _ => simp [chkS] at h
    | _ => simp [chkS] at h
  | _ => simp [chkS] at h
theorem zS_put {d c v : CE} : ZS G C k (.put d c v) := fun X g s h => by
  unfold chkS at h
  split at h
  all_goals try contradiction
  · rename_i he
    cases he
    simp only [Bool.and_eq_true, Bool.not_eq_true'] at h
    obtain ⟨⟨⟨⟨h1, h2⟩, h3⟩, h4⟩, _⟩ := h
    exact sS_put g.room (snd hS d X g.toGoodX _ h1).pe (snd hS c X g.toGoodX _ h2).pe (snd hS v X g.toGoodX _ h3).pe (sw_false h4)
theorem zS_ret {c : CE} : ZS G C k (.ret c) := fun X g s h => by
  cases s with
  | Return e pos =>
    cases e with
    | none => simp [chkS] at h
    | some e =>
      simp only [chkS] at h
      exact sS_ret (snd hS c X g.toGoodX e h).pe
  | _ => simp [chkS] at h
theorem zS_cond {c : CE} {a b : CSs} (ia : ZSs G C k a) (ib : ZSs G C k b) : ZS G C k (.cond c a b) := fun X g s h => by
  cases s with
  | If e sa sb pos =>
    simp only [chkS, Bool.and_eq_true] at h
    exact sS_cond ((snd hS c X g.toGoodX e h.1.1.1).pt h.1.1.2) (ia X g sa h.1.2) (ib X g sb h.2)
  | _ => simp [chkS] at h
theorem zS_loop {t : Tg} {it : IT} {b : CSs} (ib : ZSs G C k b) : ZS G C k (.loop t it b) := fun X g s h => by
  cases s with
  | For tg iter body els pos =>
    cases els with
    | cons x xs => simp [chkS] at h
    | nil =>
      simp only [chkS, Bool.and_eq_true] at h
      have hi := sndI hS it X g.toGoodX iter tg h.1.1
      exact sS_for g.po g.calm hi.1 (sndG g.calm g.nd (fn := fun _ => true) (fun x _ => g.fnT x) h.1.2) (ib X g body h.2) hi.2
  | _ => simp [chkS] at h
theorem zS_whl {c : CE} {b : CSs} (ib : ZSs G C k b) : ZS G C k (.whl c b) := fun X g s h => by
  cases s with
  | While e body els pos =>
    cases els with
    | cons x xs => simp [chkS] at h
    | nil =>
      simp only [chkS, Bool.and_eq_true] at h
      exact sS_whl g.po ((snd hS c X g.toGoodX e h.1.1).pt h.1.2) (ib X g body h.2)
  | _ => simp [chkS] at h
theorem zS_drop {c : CE} : ZS G C k (.drop c) := fun X g s h => by
  cases s with
  | Expr e pos =>
    simp only [chkS, Bool.and_eq_true, Bool.not_eq_true'] at h
    exact sS_drop (snd hS c X g.toGoodX e h.1).pe h.2
  | _ => simp [chkS] at h
theorem zS_rse {x : Str} {c : CE} : ZS G C k (.rse x c) := fun X g s h => by
  unfold chkS at h
  split at h
  all_goals try contradiction
  rename_i he
  cases he
  simp only [Bool.and_eq_true, decide_eq_true_eq] at h
  obtain ⟨⟨⟨⟨⟨h1, rfl⟩, h3⟩, h4⟩, h5⟩, h6⟩ := h
  have R1 : Room 2 X.A := g.room.mono g.two
  have R2 := g.rse _ (by simpa using h1)
  cases er : errRow _ with
  | none => rw [er] at h6; cases h6
  | some r =>
    rw [er] at h6
    simp only at h6
    cases hf : r.fld with
    | some f =>
      rw [hf] at h6
      exact sS_rse g.calm R1 (R2 r er).1 er hf (R2 r er).2 (glB_ok h3) (dbg_ok h4).1 (snd hS c X g.toGoodX _ h6).pe h5
    | none =>
      rw [hf] at h6
      simp only at h6
      split at h6
      · rename_i m j p m'
        have e := of_decide_eq_true h6
        subst e
        exact sS_rseQ g.calm (R2 r er).1 er hf (R2 r er).2 (glB_ok h3) (dbg_ok h4).1
      · cases h6
theorem zSs_nil : ZSs G C k .nil := fun X g s h => by
  cases s with
  | nil => exact sS_nil
  | cons s ss => simp [chkSs] at h
theorem zSs_cons {c : CS} {cs : CSs} (i : ZS G C k c) (is : ZSs G C k cs) : ZSs G C k (.cons c cs) := fun X g s h => by
  by_cases hn : c = .never
  · subst hn
    exact ⟨fun pins s σ H D I ⟨_, _, _, _, _, _, o⟩ => o.elim⟩
  by_cases hc : ∃ i, c = .fz i
  · obtain ⟨j, rfl⟩ := hc
    exact sS_fz (is X g s (by simpa [chkSs] using h))
  cases s with
  | nil =>
    cases c <;> first | exact absurd rfl hn | (simp [chkSs] at h; done) | exact absurd ⟨_, rfl⟩ hc
  | cons s ss =>
    have h2 : (chkS G X.N X.env.scope c s && chkSs G X.N X.env.scope cs ss) = true := by
      cases c <;> first | exact absurd rfl hn | exact absurd ⟨_, rfl⟩ hc | simpa only [chkSs] using h
    simp only [Bool.and_eq_true] at h2
    exact sS_cons (i X g s h2.1) (is X g ss h2.2)
mutual
theorem zS : ∀ c : CS, ZS G C k c
  | .asg t c => zS_asg hS
  | .par i j a b => zS_par hS
  | .par3 i j l a b c => zS_par3 hS
  | .app l e => zS_app hS
  | .ext l e => zS_ext hS
  | .put d c v => zS_put hS
  | .ret e => zS_ret hS
  | .cond c a b => zS_cond hS (zSs a) (zSs b)
  | .loop t it b => zS_loop hS (zSs b)
  | .whl c b => zS_whl hS (zSs b)
  | .drop e => zS_drop hS
  | .rse x e => zS_rse hS
  | .fz i => fun X g s h => by simp [chkS] at h
  | .never => fun X g s h => sS_never
theorem zSs : ∀ c : CSs, ZSs G C k c
  | .nil => zSs_nil hS
  | .cons s ss => zSs_cons hS (zS s) (zSs ss)
end
end
end L2.LC

set_option maxHeartbeats 4000000
/-! LC: _law_said(lambda: ..): what the laws say of a call's end. -/
namespace L2.LC
open PySem PySem.Spec PyProof.Rows
def cEs : List CE → CEs
  | [] => .nil
  | e :: es => .cons e (cEs es)
def cSs : List CS → CSs
  | [] => .nil
  | s :: ss => .cons s (cSs ss)
def rowTup (r : ErrRow) : CE := .tup (match r.fld with
  | some f => cEs [.cst (.str r.word), .fld f (.var 1)]
  | none => cEs [.cst (.str r.word)])
def rowC (r : ErrRow) : CS := .cond (.isx r.cls (.var 1)) (cSs [.app (.var 2) (rowTup r)]) .nil
/-- _law_said behind its try -/
def saidTail : CSs := cSs ([.cond (.cmp .isN (.var 1) (.cst .none)) (cSs [.ret (.tup (cEs [.cst (.str "said")]))]) .nil] ++ errRows.map rowC ++ [.ret (.ite (.cmp .eq (.bf .len (cEs [.var 2])) (.cst (.int 1))) (.idx (.var 2) (.cst (.int 0))) (.tup (cEs [.cst (.str "odd")])))])
def saidD (x : Xn) (r : ErrRow) : D := match r.fld with
  | some _ => dT [.str r.word, x.fld]
  | none => dT [.str r.word]
theorem tail_ok {C : Calls} : evSs C saidTail [none, some dN, some (.ref 0), none] [.lst []] = .ok (.rt (dT [.str "said"])) [.lst []] := by rfl
theorem tail_ex {C : Calls} {x : Xn} {r : ErrRow} (h : errRow x.cls = some r) : ∃ S', evSs C saidTail [none, some (.exv x), some (.ref 0), none] [.lst []] = .ok (.rt (saidD x r)) S' := by
  obtain ⟨m, e⟩ := errRow_mem h
  obtain ⟨c, p⟩ := x
  dsimp only at e
  subst e
  simp only [errRows, List.cons_append, List.nil_append, List.mem_cons, List.not_mem_nil, or_false] at m
  rcases m with rfl | rfl | rfl | rfl | rfl | rfl | rfl | rfl | rfl | rfl | rfl | rfl <;> exact ⟨_, rfl⟩
section
variable {K : Kw} {Z : Addr → Prop} {μ : List Addr} {S : Hs} {H : Hp}
theorem noLive0 {a : Addr} : ¬ Live [] [] a := fun ⟨n, o, q, _⟩ => by simp at q
/-- all of the store is hidden -/
theorem hid_in (rh : RelH K Z μ S H) : RelH K (Lv Z μ S) [] [] H :=
  ⟨rh.tb.mono fun a o e n => ⟨e, fun z => n (z.elim (fun y => absurd y noLive0) id)⟩, fun a z => ⟨z.elim (fun ⟨n, o, q1, _⟩ => rh.tr a (List.mem_of_getElem? q1)) fun z => (rh.zt a z).1, List.not_mem_nil⟩, rfl, .nil, fun _ h => (nomatch h), fun n o a h => (by simp at h)⟩
theorem ob_keep {Z' : Addr → Prop} {μ' : List Addr} {S' : Hs} {H' : Hp} {o : Ob} {a : Addr} (q : ObR K Z μ S H o a) (ha : ∀ u, H a = some u → noTbl u → H' a = some u) (hd : ∀ d v, RelD K Z μ S H d v → RelD K Z' μ' S' H' d v) : ObR K Z' μ' S' H' o a := by
  cases o with
  | lst ds => obtain ⟨vs, e, _⟩ := id q; exact q.mono (fun v e' => by rw [e] at e'; cases e'; exact ha _ e trivial) hd
  | dic kvs => obtain ⟨qs, e, _⟩ := id q; exact q.mono (fun v e' => by rw [e] at e'; cases e'; exact ha _ e trivial) hd
  | tab kvs => obtain ⟨_, _, _, _, _, _, e, _⟩ := id q; exact q.mono (fun v e' => by rw [e] at e'; cases e'; exact ha _ e trivial) hd
  | gone => trivial
/-- a list is made within a def; it is hidden from the store outside -/
theorem said_out {H2 : Hp} {p : Addr} {μ2 : List Addr} {S2 : Hs} (rh : RelH K Z μ S H) (l : Later [] [] H μ2 S2 H2) (r : RelH K (Lv Z μ S) μ2 S2 H2) (hp : H p = none) (lp : Live μ2 S2 p) (tp : ∃ o, H2 p = some o) : Later μ S H μ S H2 ∧ RelH K (fun a => Z a ∨ a = p) μ S H2 := by
  have keep : ∀ a u, H a = some u → noTbl u → H2 a = some u := fun a u e nt => (l.keep a u e nt noLive0).1
  have l' : Later μ S H μ S H2 := ⟨⟨[], by simp⟩, fun a u e nt n => ⟨keep a u e nt, n⟩, l.st⟩
  have hz : ∀ a, (Z a ∨ a = p) → ¬ Z a → H a = none := fun a ha hn => by rcases ha with z | rfl; exact absurd z hn; exact hp
  refine ⟨l', r.tb.mono fun a o e n => ⟨e, fun z => n ?_⟩, fun a ha => ?_, rh.len, rh.nd, fun a z => (rh.tr a z).elim fun u e => l.st a u e, fun n u a q1 q2 => ?_⟩
  · rcases z with z | z | rfl
    · exact .inr (.inl z)
    · exact .inr (.inr z)
    · exact .inl lp
  · rcases ha with z | rfl
    · exact ⟨(rh.zt a z).1.elim fun u e => l.st a u e, (rh.zt a z).2⟩
    · exact ⟨tp, rh.notin hp⟩
  · exact ob_keep (rh.ob n u a q1 q2) (fun v e nt => keep a v e nt) fun d v y => RelD.hide l' hz y
theorem said_sub {p : Addr} : ∀ a, Lv (Lv Z μ S) [p] [.lst []] a → Lv (fun a => Z a ∨ a = p) μ S a := fun a z => by
  rcases z with ⟨n, o, q, _⟩ | z | z
  · have : a ∈ [p] := List.mem_of_getElem? q
    exact .inr (.inr (by simpa using this))
  · exact .inl z
  · exact .inr (.inl z)
/-- the list alone is live -/
theorem said_tail {p : Addr} (rh : RelH K (fun a => Z a ∨ a = p) μ S H) (hz : ¬ Z p) (hp : H p = some (.lst [])) : RelH K (Lv Z μ S) [p] [.lst []] H := by
  have np := (rh.zt p (.inr rfl)).2
  have sub : ∀ a, Lv (Lv Z μ S) [p] [.lst []] a → Lv (fun a => Z a ∨ a = p) μ S a := fun a z => by
    rcases z with ⟨n, o, q, _⟩ | z | z
    · have : a ∈ [p] := List.mem_of_getElem? q
      exact .inr (.inr (by simpa using this))
    · exact .inl z
    · exact .inr (.inl z)
  refine ⟨rh.tb.mono fun a o e n => ⟨e, fun z => n (sub a z)⟩, fun a ha => ⟨?_, fun hm => ?_⟩, rfl, by simp, fun a ha => ?_, fun n o a q1 q2 => ?_⟩
  · rcases ha with ⟨n, o, q, _⟩ | z
    · exact rh.tr a (List.mem_of_getElem? q)
    · exact (rh.zt a (.inl z)).1
  · have e : a = p := by simpa using hm
    subst e
    rcases ha with ⟨n, o, q, _⟩ | z
    · exact np (List.mem_of_getElem? q)
    · exact hz z
  · have e : a = p := by simpa using ha
    subst e
    exact ⟨_, hp⟩
  · cases n with
    | zero =>
      simp at q1 q2
      subst q1 q2
      exact ⟨[], hp, Nat.zero_le _, .nil⟩
    | succ n => simp at q1
theorem said_back {H4 H' : Hp} {p : Addr} {μ' : List Addr} {S' : Hs} (rh : RelH K (fun a => Z a ∨ a = p) μ S H) (k4 : ∀ a u, H a = some u → H4 a = some u) (l : Later [p] [.lst []] H4 μ' S' H') (r : RelH K (Lv Z μ S) μ' S' H') :
    RelH K Z μ S H' ∧ ∀ a u, H a = some u → noTbl u → a ≠ p → H' a = some u := by
  have keep : ∀ a u, H a = some u → noTbl u → a ≠ p → H' a = some u := fun a u e nt ne => (l.keep a u (k4 a u e) nt fun ⟨n, o, q, _⟩ => ne (by simpa using (List.mem_of_getElem? q : a ∈ [p]))).1
  have st : ∀ a o, H a = some o → ∃ o', H' a = some o' := fun a o e => l.st a o (k4 a o e)
  have np := (rh.zt p (.inr rfl)).2
  refine ⟨⟨r.tb.mono fun a o e n => ⟨e, fun z => n (.inr z)⟩, fun a z => ⟨(rh.zt a (.inl z)).1.elim fun u e => st a u e, (rh.zt a (.inl z)).2⟩, rh.len, rh.nd, fun a z => (rh.tr a z).elim fun u e => st a u e, fun n u a q1 q2 => ?_⟩, keep⟩
  refine ob_keep (rh.ob n u a q1 q2) (fun v e nt => keep a v e nt fun z => np (z ▸ List.mem_of_getElem? q2)) fun d v y => y.tr (fun a u e nt n => ⟨keep a u e nt fun z => n (.inr (.inr z)), fun z => n (z.elim .inl fun y => .inr (.inl y))⟩) fun _ _ q => q
end
/-! ### the def -/
def parB (sc : Scope) : Stmt → Bool
  | .Assign [.Tuple [.Name x px, .Name y py] _ _] (.Tuple [.Constant .none j p, .List [] p2] _ _) _ => decide (x = "_law_caught") && decide (y = "_law_found") && locB sc x && locB sc y && (py.line == px.line) &&
    !([Expr.Constant .none j p, .List [] p2].all (foldedForSure 8)) && !([Expr.Constant .none j p, .List [] p2].all (constantsAlone 8))
  | _ => false
def tryB (sc : Scope) : Stmt → Bool
  | .Try [.Expr (.Call (.Name a _) [] [] _) _] [.ExceptHandler (some (.Tuple [.Name c1 _, .Name c2 _, .Name c3 _] _ _)) (some n) [.Assign [.Name t _] (.Name n2 _) _] _] [] [] _ =>
    decide (a = "_law_call") && decide (c1 = "LiftError") && decide (c2 = "MissError") && decide (c3 = "TooMany") && decide (n = "e") && decide (t = "_law_caught") && decide (n2 = "e") && glB sc c1 && glB sc c2 && glB sc c3 && locB sc n && locB sc t && visB sc a
  | _ => false
def saidBody (G : GI) (sc : Scope) : List Stmt → Bool
  | st0 :: st1 :: tail => parB sc st0 && tryB sc st1 && chkSs G saidN sc saidTail tail && !lamP sc
  | _ => false
/-- the same text, no _law_said within -/
abbrev GI.plain (G : GI) : GI := { G with said := false, sbd := fun _ _ => false }
theorem no_said {G : GI} {C : Calls} {k : Nat} : SaidH G.plain C k := fun h => by cases h
theorem goodY {G : GI} {C : Calls} {k : Nat} {X : Cx} {cdv : Value} {sc : Scope} {g : Addr} {s : Shared} {H : Hp} (gX : GoodX G C k X) (Sc : FnScope saidN ["_law_call"] sc) (hr : Room (k + 1) (X.A.deeper (envOfC "_law_said" sc s.heap.objs.size g cdv))) (hl : lamP sc = false) :
    GoodS G.plain C k (cxOf CX0 X.prog X.w X.K X.mg X.base saidN "_law_said" sc g cdv X.A X.stack s H E0) :=
  ⟨⟨rfl, Sc.nd, hr.mono (Nat.le_succ _), gX.gd, gX.blt, gX.con, gX.tab, gX.fn, gX.err, gX.two, gX.rse, fun q => absurd (show lamP sc = true from q) (by rw [hl]; decide), fun q => absurd (show false = true from q) (by decide)⟩, fun _ => rfl, passes_of (K := fun _ _ => False) rfl, Sc.kind⟩
theorem said_pe {G : GI} {C : Calls} {k : Nat} {X : Cx} {c : CE} (hG : G.sbd = saidBody G.plain) (hs : G.said = true) (iS : SE G C k c) (g : GoodX G C k X) {pr : Arguments} {bd : Expr} {lsc : Scope} {p lp pos : Pos} {o : Option Str} (hgl : Gl X "_law_said") (hlam : lamP X.env.scope = true) (hp : LamPar pr o) (LS : LamSc X.N X.env.scope lsc o) (nl : lamP lsc = false) (hc : chkE G X.N c lsc bd = true) :
    PE X (.Call (.Name "_law_said" p) [.Lambda pr bd lsc lp] [] pos) (tE X.kw (evE C (.said c))) := by
  refine ⟨fun pins s σ H Q I ⟨Z, μ, ρ, S, rh, re, ou⟩ => ?_⟩
  simp only [evE] at ou
  have LO := g.lam hlam
  obtain ⟨c0, P, hcode, TB, hm, hu⟩ := LO.ex
  obtain ⟨herr, g0, fd, pr0, bd0, sc0, hmg, F, Sc, hsb, hbn⟩ := g.said hs
  have Er := g.err herr
  rw [hG] at hsb
  refine wpAny_Call_Name_kw (ld_glob I hgl hmg (PySem.W.callWith_K (h₀ := X.base) I.ok.mod.kin F.kp ?_ (by rfl) (by rfl)) (by decide))
  show wpAny _ _ (spliced ((false, eval (.Lambda pr bd lsc lp) X.env) :: backTo pos (starEach [] X.env))) _ _ s
  refine Calls.spliced_cons (lam_mk hp I rh TB hcode hm hu (LS.has I.ok) fun f c' pm ct dv H1 s' I1 l1 rh1 hf hfn hfr hco hdv => ?_)
  refine Calls.spliced_nil ⟨I1.kIn, ?_⟩
  have rc : codeAny (model X.prog X.w) X.A (.call (.ref g0) ⟨[.ref f], []⟩) (CR CX0 X.stack X.prog X.w H1 s' Q E0) s' := by
    obtain ⟨oc, od, dV, kV, doc, pm', an, cdv, ct', osl, rfl, lk, hcd, _, _⟩ := F.ex
    refine LamX.run_ofS (k := k + 1) (N := saidN) (ps := ["_law_call"]) (us := [.ref f]) (vs := [.ref f]) lk hcd Sc LO.room I1.env0 (hbn s' [.ref f] I1.kIn rfl) (.cons rfl .nil) rfl fun hr' => ?_
    unfold saidBody at hsb
    split at hsb
    · rename_i st0 st1 tail
      simp only [Bool.and_eq_true, Bool.not_eq_true'] at hsb
      obtain ⟨⟨⟨b0, b1⟩, b2⟩, b3⟩ := hsb
      have gY := goodY (H := H1) (s := s') (cdv := cdv) (g := g0) g Sc hr' b3
      unfold parB at b0
      split at b0
      all_goals try contradiction
      rename_i x px y py kt pt j0 q0 q1 k2 pt2 pos0
      simp only [Bool.and_eq_true, decide_eq_true_eq, Bool.not_eq_true'] at b0
      obtain ⟨⟨⟨⟨⟨⟨rfl, rfl⟩, z1⟩, z2⟩, z3⟩, z4⟩, z5⟩ := b0
      unfold tryB at b1
      split at b1
      all_goals try contradiction
      rename_i a e1 e2 e3 c1 f1 c2 f2 c3 f3 f4 f5 n tt f6 n2 f7 f8 f9 f10
      simp only [Bool.and_eq_true, decide_eq_true_eq] at b1
      obtain ⟨⟨⟨⟨⟨⟨⟨⟨⟨⟨⟨⟨rfl, rfl⟩, rfl⟩, rfl⟩, rfl⟩, rfl⟩, rfl⟩, y1⟩, y2⟩, y3⟩, y4⟩, y5⟩, y6⟩ := b1
      have hbody : ∀ (W : WX) (pn : List (Addr × Obj)) (xe : Value → Shared → Prop), Takes ((cxOf CX0 X.prog X.w X.K X.mg X.base saidN "_law_said" sc0 g0 cdv X.A X.stack s' H1 E0).tr pn xe) W → PassesOwn (model X.prog X.w) (X.A.deeper (envOfC "_law_said" sc0 s'.heap.objs.size g0 cdv)) (envOfC "_law_said" sc0 s'.heap.objs.size g0 cdv) xe →
          PSs ((cxOf CX0 X.prog X.w X.K X.mg X.base saidN "_law_said" sc0 g0 cdv X.A X.stack s' H1 E0).tr pn xe) [.Expr (.Call (.Name "_law_call" e1) [] [] e2) e3] (fun D σZ HZ => ∃ Ec : XK, (∀ cls d H', Ec cls d H' → W cls d σZ H') ∧ σZ[0]? = some (some (V.ref f)) ∧ HZ c' = some (LamX.CodeO c' (X.env.qual ++ ("<lambda>" : Str))) ∧ tE ⟨X.kw.toKw, Ec⟩ (evE C c) σ HZ fun _ H' => D.nx σZ H') := fun W pn xe tk _ => by
        refine ⟨fun pinsZ sZ σZ HZ D IZ ⟨Ec, h1, h2, h3, h4⟩ => ?_⟩
        have gL : ∀ (s1 : Shared) (HZ : Hp), Room k ((X.A.deeper (envOfC "_law_said" sc0 s'.heap.objs.size g0 cdv)).deeper (LamX.lamEnv X lsc s1.heap.objs.size f c')) → GoodX G C k (LamX.lamCx X (X.A.deeper (envOfC "_law_said" sc0 s'.heap.objs.size g0 cdv)) (envOfC "_law_said" sc0 s'.heap.objs.size g0 cdv :: X.stack) s1 HZ Ec lsc f c') := fun s1 HZ r2 =>
          ⟨rfl, g.nd, r2, g.gd, g.blt, g.con, g.tab, g.fn, g.err, g.two, g.rse, fun q => absurd (show lamP lsc = true from q) (by rw [nl]; decide), g.said⟩
        have act := lam_act (i := 0) (p1 := e1) (p2 := e2) (E := Ec) (tb := tE ⟨X.kw.toKw, Ec⟩ (evE C c)) I1 hp LS hf hfn hfr hdv tk hr' (fun s1 HZ r2 => PE_wk (iS _ (gL s1 HZ r2) bd hc).pe fun σ2 H2 Q2 ⟨Z2, μ2, ρ2, S2, k1, k2, k3⟩ => ⟨Z2, μ2, ρ2, S2, k1, k2, Out.wide (K := ⟨X.kw.toKw, Ec⟩) rfl (fun cls d H h => x_takes (takes_of rfl rfl rfl rfl) h) k3⟩) rfl (visB_ok y6) (by decide) (by decide)
        exact (pss_one (ps_expr (pos := e3) act rfl)).run pinsZ sZ σZ HZ D IZ ⟨h1, h2, h3, h4⟩
      have PS0 := ps_par (X := cxOf CX0 X.prog X.w X.K X.mg X.base saidN "_law_said" sc0 g0 cdv X.A X.stack s' H1 E0) (i := 1) (j := 2) (kt := kt) (pt := pt) (k2 := k2) (pt2 := pt2) (pos := pos0) rfl Sc.nd rfl rfl (by decide) (locB_ok z1) (locB_ok z2) (pa_cons (pe_non (j := j0) (pos := q0)) (pa_cons (pe_lst (pos := q1) pa_nil) pa_nil (star_cons rfl)) (star_cons rfl)) (sw_par gY.kind z1 z2 z3 (by decide) rfl rfl z4 z5)
      have PS1 := ps_try_said (X := cxOf CX0 X.prog X.w X.K X.mg X.base saidN "_law_said" sc0 g0 cdv X.A X.stack s' H1 E0) (i := 3) (j := 1) (pos := f10) (pos' := f9) (q1 := f6) (q2 := f7) (q3 := f8) (kt := f4) (pt := f5) (p1 := f1) (p2 := f2) (p3 := f3) rfl rfl rfl Sc.nd rfl (locB_ok y4) rfl (locB_ok y5) (by decide) (by decide) ⟨glB_ok y1, by decide, Er.top.1⟩ ⟨glB_ok y2, by decide, Er.top.2.1⟩ ⟨glB_ok y3, by decide, Er.top.2.2⟩
        (body := [.Expr (.Call (.Name "_law_call" e1) [] [] e2) e3]) (tb := fun W D σZ HZ => ∃ Ec : XK, (∀ cls d H', Ec cls d H' → W cls d σZ H') ∧ σZ[0]? = some (some (V.ref f)) ∧ HZ c' = some (LamX.CodeO c' (X.env.qual ++ ("<lambda>" : Str))) ∧ tE ⟨X.kw.toKw, Ec⟩ (evE C c) σ HZ fun _ H' => D.nx σZ H') hbody
      have PS2 := zSs no_said saidTail _ gY tail b2
      refine ⟨_, pss_cons PS0 (pss_cons PS1 PS2), Nat.zero_le _, fun pA hpA => ⟨.non, .ref pA, rfl, ?_⟩⟩
      -- the list is hidden from the store outside
      have l12 : Later μ S H1 μ S (upd H1 pA (.lst [])) := later_fresh hpA _
      have rh2 : RelH X.kw (fun a => Z a ∨ a = pA) μ S (upd H1 pA (.lst [])) := rh1.hideNew hpA
      have re2 : RelE X.kw (fun a => Z a ∨ a = pA) μ S (upd H1 pA (.lst [])) ρ σ := (re.later l1).hideNew hpA
      have nz : ¬ Z pA := fun z => rh1.notlive hpA (.inr z)
      have p2 : (upd H1 pA (.lst [])) pA = some (.lst []) := upd_same
      have pkeep : ∀ {μ3 : List Addr} {S3 : Hs} {H3 : Hp}, Later μ S (upd H1 pA (.lst [])) μ3 S3 H3 → H3 pA = some (.lst []) := fun l3 => (l3.keep pA _ p2 trivial fun z => rh1.notlive hpA (.inl z)).1
      have fin : ∀ {q : PyData} {S3 : Hs} {μ3 : List Addr} {H3 H4 H' : Hp} {μ' : List Addr} {S' : Hs} {v : V}, Out X.kw Z (RelD X.kw Z) μ S H (.ok (.dat q) S3) Q → Later μ S (upd H1 pA (.lst [])) μ3 S3 H3 → RelH X.kw (fun a => Z a ∨ a = pA) μ3 S3 H3 → (∀ a u, H3 a = some u → H4 a = some u) →
          Later [pA] [.lst []] H4 μ' S' H' → RelH X.kw (Lv Z μ3 S3) μ' S' H' → Rp X.K H' (Lv (Lv Z μ3 S3) μ' S') v q → Q v H' := fun {q S3 μ3 H3 H4 H' μ' S' v} ou l3 rh3 k4 l r rp => by
        obtain ⟨rh', keep⟩ := said_back rh3 k4 l r
        refine ou v μ3 H' ⟨l3.pre, fun a u e nt n => ?_, fun a u e => ?_⟩ rh' (Rp.unhide (fun a z => .inr z) rp)
        · have k1 := l1.keep a u e nt n
          have ne : a ≠ pA := ne_of_none k1.1 hpA
          have k3 := l3.keep a u (by rw [upd_ne ne]; exact k1.1) nt n
          exact ⟨keep a u k3.1 nt ne, k3.2⟩
        · obtain ⟨u1, e1⟩ := l1.st a u e
          obtain ⟨u2, e2⟩ := l12.st a u1 e1
          obtain ⟨u3, e3⟩ := l3.st a u2 e2
          exact l.st a u3 (k4 a u3 e3)
      refine ⟨fun cls d H3 => ∃ x S3 μ3, evE C c ρ S = .ex x S3 ∧ Later μ S (upd H1 pA (.lst [])) μ3 S3 H3 ∧ RelH X.kw (fun a => Z a ∨ a = pA) μ3 S3 H3 ∧ RelX X.kw (Lv (fun a => Z a ∨ a = pA) μ3 S3) H3 x cls d, fun cls d H3 ⟨x, S3, μ3, ex, l3, rh3, rx⟩ => ?_, rfl, (by rw [upd_ne (ne_of_none hco hpA)]; exact hco), (fun a => Z a ∨ a = pA), μ, ρ, S, rh2, re2, ?_⟩
      · obtain ⟨em, r, er, _⟩ := id rx
        obtain ⟨mr, ec⟩ := errRow_mem er
        have ecl : cls = .ref (He.ga X.K r.cls) := by
          have z := Er.at_ r mr
          rw [ec] at z
          have em' : X.mg x.cls = some cls := em
          rw [em'] at z
          rw [ec]
          exact Option.some.inj z
        rw [ex] at ou
        refine ⟨by rw [ecl]; exact Er.exm r mr, fun a ha => ?_⟩
        have rhT := said_tail rh3 nz (pkeep l3)
        have up : ∀ b u, H3 b = some u → noTbl u → ¬ Lv (fun a => Z a ∨ a = pA) μ3 S3 b → upd H3 a (ExK cls d a) b = some u ∧ ¬ Lv (Lv Z μ3 S3) [pA] [.lst []] b := fun b u e _ n => ⟨by rw [upd_ne (ne_of_none e ha)]; exact e, fun z => n (said_sub b z)⟩
        refine ⟨Lv Z μ3 S3, [pA], [none, some (.exv x), some (.ref 0), none], [.lst []], rhT.fresh ha _, ⟨rfl, fun i d' e => ?_⟩, ?_⟩
        · match i, e with
          | 1, e => cases e; exact ⟨.ref a, rfl, a, cls, d, rfl, rhT.notlive ha, upd_same, rx.mono (fun b u n e nt => up b u e nt n) fun v p y => Rp.tr up y⟩
          | 2, e => cases e; exact ⟨.ref pA, rfl, pA, rfl, rfl⟩
          | 0, e => cases e
          | 3, e => cases e
          | n + 4, e => simp at e
        · obtain ⟨S', et⟩ := tail_ex (C := C) er
          rw [et]
          cases hf : r.fld with
          | some f =>
            simp only [saidR, er, hf] at ou
            simp only [saidD, hf]
            exact fun v' μ' H' l' rh' r' => fin ou l3 rh3 (fun b u e => by rw [upd_ne (ne_of_none e ha)]; exact e) l' rh' r'
          | none =>
            simp only [saidR, er, hf] at ou
            simp only [saidD, hf]
            exact fun v' μ' H' l' rh' r' => fin ou l3 rh3 (fun b u e => by rw [upd_ne (ne_of_none e ha)]; exact e) l' rh' r'
      · cases er : evE C c ρ S with
        | no => rw [er] at ou; exact ou
        | ex x S3 => exact fun cls d μ3 H3 l3 rh3 rx => ⟨x, S3, μ3, rfl, l3, rh3, rx⟩
        | ok dd S3 =>
          rw [er] at ou
          intro v μ3 H3 l3 rh3 rv
          refine ⟨Lv Z μ3 S3, [pA], [none, some dN, some (.ref 0), none], [.lst []], said_tail rh3 nz (pkeep l3), ⟨rfl, fun i d e => ?_⟩, ?_⟩
          · match i, e with
            | 1, e => cases e; exact ⟨.non, rfl, Rp.non⟩
            | 2, e => cases e; exact ⟨.ref pA, rfl, pA, rfl, rfl⟩
            | 0, e => cases e
            | 3, e => cases e
            | n + 4, e => simp at e
          · rw [tail_ok]
            exact fun v' μ' H' l' rh' r' => fin ou l3 rh3 (fun _ _ e => e) l' rh' r'
    · cases hsb
  refine wpAny_call (codeAny_mono rc fun r s2 hq => ?_)
  rcases r with er | fl
  · exact (show False from hq).elim
  · cases fl <;> first | exact I1.after hq | exact False.elim hq
/-- what the checker lets by of _law_said(lambda: ..) -/
theorem said_sound {G : GI} {C : Calls} {k : Nat} (hG : G.sbd = saidBody G.plain) : SaidH G C k := fun hs c iS X g e h => by
  unfold chkE at h
  split at h
  all_goals try contradiction
  rename_i he
  cases he
  simp only [Bool.and_eq_true, decide_eq_true_eq] at h
  obtain ⟨⟨⟨⟨⟨h1, rfl⟩, h3⟩, h4⟩, h5⟩, h6⟩ := h
  split at h5
  · rename_i o hp
    simp only [Bool.and_eq_true, Bool.not_eq_true'] at h5
    exact Snd.val (said_pe hG hs iS g (glB_ok h3) h4 (lamPar_of hp) (lamSc_by h5.1) h5.2 h6) (by intro _; rfl)
  · cases h5
end L2.LC

set_option maxHeartbeats 4000000
/-! LC: the whole text. -/
namespace L2.LC
open PySem PySem.Spec PyProof.Rows
/-- a def of the text, checked -/
structure DefOk (G : GI) (K : PySem.W.Frag) (mg : Str → Option Value) (name : Str) (ns : List Str) (fd : FD) (fa : Addr) (fdt : FuncData) (ps : List Str) : Prop where
  at_ : mg name = some (.ref fa)
  ok : ∃ (params : Arguments) (body : List Stmt) (scope : Scope), FunD K name name params body scope [] [] fa fdt ∧ FnScope ns ps scope ∧ chkSs G ns scope fd.body body = true ∧ (lamP scope = true → name ∈ lamNames ∧ isFnB K name = true ∧ fa = He.fAd K (name, none))
  len : ps.length = fd.np
  nl : ns.length = fd.np + fd.nl
  bnd : Binds K fdt ps []
structure ProgOk (G : GI) (w : World) (K : PySem.W.Frag) (mg : Str → Option Value) : Prop where
  blt : ∀ x ∈ bltNames, mg x = none
  con : ∀ x p, G.cons.lookup x = some p → ∃ u v, mg x = some u ∧ RelV v u ∧ RpK K v p
  tab : ∀ x t, G.tabs.lookup x = some t → ∃ a, mg x = some (.ref a) ∧ ∀ z d, t.lookup z = some d → ∃ v, KDct K w a z v ∧ RpK K v d
  fn : ∀ (f : Nat) x, G.nms.lookup f = some x → ∃ ns fd fa fdt ps, G.fns[f]? = some fd ∧ DefOk G K mg x ns fd fa fdt ps
  err : G.err = true → ErrOk K mg
  rse : ∀ x ∈ G.rs, ∀ r, errRow x = some r → mg x = some (.ref (He.ga K x)) ∧ ∀ (P : Program) (base : Heap), RaiseOk P w K mg base r
  said : G.said = true → G.err = true ∧ SaidDef G K mg
  uniq : ∀ p ∈ tabsK K, ∀ q ∈ tabsK K, p.1 = q.1 → p.2 = q.2
  sbd : G.sbd = saidBody G.plain
theorem prog_fn {G : GI} {P : Program} {w : World} {K : PySem.W.Frag} {mg : Str → Option Value} {base : Heap} (pg : ProgOk G w K mg) (tb : ∀ x ∈ lamNames, isFnB K x = true → LamX.TabB base mg (He.cT K (x, none)).1 (He.cT K (x, none)).2) :
    ∀ (k f : Nat) (x : Str) (ns : List Str) (fd : FD) (fa : Addr) (fdt : FuncData) (ps : List Str), G.fns[f]? = some fd → DefOk G K mg x ns fd fa fdt ps → FnG P w K mg base (CX P w) (3 * k + 2) fa fdt ps (spF ⟨K, w, mg⟩ fd.np (evF G.fns k f))
  | 0, f, x, ns, fd, fa, fdt, ps, hf, d => by
    refine ⟨fun vs H Q E h => ?_, fun A outer s H args us vs Q E hr gd e0 hb hv h => ?_⟩
    · obtain ⟨_, _, _, _, _, _, _, o⟩ := h
      exact o.elim
    · obtain ⟨_, _, _, _, _, _, _, o⟩ := h
      exact o.elim
  | k + 1, f, x, ns, fd, fa, fdt, ps, hf, d => by
    obtain ⟨params, body, scope, F, Sc, hc, hlam⟩ := d.ok
    have e : evF G.fns (k + 1) f = callF (evF G.fns k) fd := by
      funext ds S
      simp only [evF, hf]
    rw [e, show 3 * (k + 1) + 2 = (3 * k + 4) + 1 from by omega]
    refine fn_ok F Sc d.len d.nl fun cdv A outer s H E hr gd ⟨oc, od, osl, fd', lk, ecd, hcd⟩ => ?_
    refine zSs (said_sound pg.sbd) fd.body (G := G) (C := evF G.fns k) (k := 3 * k + 2) (cxOf (CX P w) P w K mg base ns x scope fa cdv A outer s H E) ⟨⟨rfl, Sc.nd, hr.mono (by omega), gd, pg.blt, pg.con, pg.tab, fun f' x' hx' => ?_, pg.err, by omega, fun y hy r er => ⟨(pg.rse y hy r er).1, (pg.rse y hy r er).2 P base⟩, fun q => ?_, pg.said⟩, fun _ => rfl, passes_of rfl, Sc.kind⟩ body hc
    · obtain ⟨ns', fd', fa', fdt', ps', hf', d'⟩ := pg.fn f' x' hx'
      obtain ⟨_, _, _, F', _, _, _⟩ := d'.ok
      exact ⟨fd'.np, fun ds S h => call_len hf' h, fa', fdt', ps', d'.at_, F'.kp, d'.bnd, prog_fn pg tb k f' x' ns' fd' fa' fdt' ps' hf' d'⟩
    · obtain ⟨m, hfn, efa⟩ := hlam q
      obtain ⟨c, ec⟩ := He.codeIn_ref hcd
      subst ecd
      rw [efa] at lk
      have cc := He.codeOf_eq lk ec
      have mem : ((He.cT K (x, none)).2, (x ++ (".<locals>." : Str)) ++ ("<lambda>" : Str)) ∈ tabsK K := List.mem_map.mpr ⟨x, List.mem_filter.mpr ⟨m, hfn⟩, rfl⟩
      refine ⟨hr, c, (He.cT K (x, none)).2, ec, ?_, mem, fun p hp e => pg.uniq p hp _ mem e⟩
      have z := tb x m hfn
      have e1 : (He.cT K (x, none)).1 = c := cc
      rw [e1] at z
      exact z
end L2.LC

set_option maxHeartbeats 4000000
/-! LC: from the head's facts to the law's end. -/
namespace L2.LC
open PySem PySem.Spec PyProof.Rows
/-- a written value is the data p -/
def rpB (K : PySem.W.Frag) : Nat → Value → PyData → Bool
  | _, .none, .none => true
  | _, .bool a, .bool b => a == b
  | _, .int a _, .int b => a == b
  | _, .str a _, .str b => decide (a = b)
  | n + 1, .ref a, .tuple ps => (match K.lookup a with
    | some ⟨cls, _, .seq its _, _⟩ => decide (cls = .type "tuple") && decide (its.size ≤ sizeLine) && (its.toList.length == ps.length) && (its.toList.zip ps).all (fun q => rpB K n q.1 q.2)
    | _ => false)
  | _, _, _ => false
theorem rpB_all {K : PySem.W.Frag} {n : Nat} (ih : ∀ u p, rpB K n u p = true → ∃ v, RelV v u ∧ RpK K v p) : ∀ {us : List Value} {ps : List PyData}, us.length = ps.length → (us.zip ps).all (fun q => rpB K n q.1 q.2) = true → ∃ vs, Vals vs us ∧ RpAll K (fun _ => none) (fun _ => False) vs ps
  | [], [], _, _ => ⟨[], .nil, .nil⟩
  | [], _ :: _, h, _ => by simp at h
  | _ :: _, [], h, _ => by simp at h
  | u :: us, p :: ps, h, q => by
    simp only [List.zip_cons_cons, List.all_cons, Bool.and_eq_true] at q
    obtain ⟨v, r1, r2⟩ := ih u p q.1
    obtain ⟨vs, r3, r4⟩ := rpB_all ih (by simpa using h) q.2
    exact ⟨v :: vs, .cons r1 r3, .cons r2 r4⟩
theorem rpB_ok {K : PySem.W.Frag} : ∀ (n : Nat) (u : Value) (p : PyData), rpB K n u p = true → ∃ v, RelV v u ∧ RpK K v p
  | n, u, p, h => by
    unfold rpB at h
    split at h
    · exact ⟨.non, rfl, .non⟩
    · rename_i a b
      have e : a = b := by simpa using h
      subst e
      exact ⟨.bl a, rfl, .bl a⟩
    · rename_i a t b
      have e : a = b := by simpa using h
      subst e
      exact ⟨.int a, ⟨t, rfl⟩, .int a⟩
    · rename_i a t b
      have e : a = b := by simpa using h
      subst e
      exact ⟨.str a, ⟨t, rfl⟩, .str a⟩
    · rename_i n a ps
      split at h
      · rename_i cls dd its m sl hl
        simp only [Bool.and_eq_true, decide_eq_true_eq, beq_iff_eq] at h
        obtain ⟨vs, h1, h2⟩ := rpB_all (rpB_ok n) h.1.2 h.2
        refine ⟨.ref a, rfl, .tup (.inr ⟨_, its, m, hl, h.1.1.1, rfl, h.1.1.2, h1⟩) ?_ h2⟩
        have e := h.1.2
        simp only [Array.length_toList] at e
        rw [← e]; exact h.1.1.2
      · cases h
    · cases h
def conK (K : PySem.W.Frag) (x : Str) (p : PyData) : Bool := match PySem.W.nsIn K mainGlobals x with
  | some (some u) => rpB K 8 u p
  | _ => false
def valK (K : PySem.W.Frag) (x : Str) (t : List (Str × PyData)) : Bool := t.all fun q => match PySem.W.nsIn K (He.ga K x) q.1 with
  | some (some u) => rpB K 8 u q.2
  | _ => false
/-! ### the errors' classes -/
structure RowB where
  n : Str
  B : String
  newId : String
  initId : String
  tl : List Value
/-- the class above, and the built-in one -/
def rowBase (c : Str) : RowB := if c = "TooMany" then ⟨"OverflowError", "OverflowError", "OverflowError.__new__", "OverflowError.__init__", tlO⟩ else if c = "Missing" then ⟨"MissError", "LookupError", "LookupError.__new__", "LookupError.__init__", tlL⟩ else ⟨"LiftError", "ValueError", "ValueError.__new__", "ValueError.__init__", tlV⟩
theorem rowBase_bs (c : Str) : Bs (rowBase c).B (rowBase c).newId (rowBase c).initId (rowBase c).tl ∧ PySem.W.handedIn (.builtin (rowBase c).initId) = true ∧ ((rowBase c).n == ("__debug__" : Str)) = false := by
  unfold rowBase
  split
  · exact ⟨bsO, by decide +kernel, by decide⟩
  · split
    · exact ⟨bsL, by decide +kernel, by decide⟩
    · exact ⟨bsV, by decide +kernel, by decide⟩
def isVal (o : Option PySem.W.CFound) (id : String) : Bool := match o with
  | some (.val (.builtin i)) => decide (i = id)
  | _ => false
theorem isVal_ok {o : Option PySem.W.CFound} {id : String} (h : isVal o id = true) : o = some (.val (.builtin id)) := by
  unfold isVal at h
  split at h
  · rw [of_decide_eq_true h]
  · cases h
def upB (K : PySem.W.Frag) (b : RowB) : Bool := if b.n = "OverflowError" then isVal (PySem.W.findCls K (.type "OverflowError") (.type "type") "__init__") b.initId else
  decide (PySem.W.specialIn K (.ref (He.ga K b.n)) "__getattribute__" = some (some (.builtin "type.__getattribute__"))) && decide (PySem.W.typeIn K (.ref (He.ga K b.n)) = some (.type "type")) && PySem.W.readsIn K (He.ga K b.n) (.type "type") && isVal (PySem.W.findCls K (.ref (He.ga K b.n)) (.type "type") "__init__") b.initId
theorem upB_ok {K : PySem.W.Frag} {mg : Str → Option Value} (c : Str) (h : upB K (rowBase c) = true) (hu : if (rowBase c).n = "OverflowError" then mg "OverflowError" = none else mg (rowBase c).n = some (.ref (He.ga K (rowBase c).n))) : UpOk K mg (rowBase c).n (rowBase c).B (rowBase c).initId := by
  unfold upB at h
  unfold rowBase at h hu ⊢
  by_cases e : c = "TooMany"
  · rw [if_pos e] at h hu ⊢
    rw [if_pos rfl] at h hu
    exact .inr ⟨hu, by decide +kernel, by decide, by kernel_rfl, by decide +kernel, isVal_ok h⟩
  · rw [if_neg e] at h hu ⊢
    by_cases e2 : c = "Missing"
    · rw [if_pos e2] at h hu ⊢
      rw [if_neg (by decide)] at h hu
      simp only [Bool.and_eq_true, decide_eq_true_eq] at h
      exact .inl ⟨_, hu, h.1.1.1, h.1.1.2, h.1.2, isVal_ok h.2⟩
    · rw [if_neg e2] at h hu ⊢
      rw [if_neg (by decide)] at h hu
      simp only [Bool.and_eq_true, decide_eq_true_eq] at h
      exact .inl ⟨_, hu, h.1.1.1, h.1.1.2, h.1.2, isVal_ok h.2⟩
def raiseB (K : PySem.W.Frag) (r : ErrRow) : Bool := match r.fld with
  | some f => decide (PySem.W.findIn K (.ref (He.ga K r.cls)) f = some none) && oexB K (He.ga K r.cls) (rowBase r.cls).newId (rowBase r.cls).tl && decide (PySem.W.findIn K (.ref (He.ga K r.cls)) "__init__" = some (some (.ref (He.fAd K (r.cls, some ("__init__" : Str)))))) && decide (PySem.W.typeIn K (.ref (He.fAd K (r.cls, some ("__init__" : Str)))) = some (.type "function")) && upB K (rowBase r.cls)
  | none => PySem.W.excIn K (He.ga K r.cls) tlV "ValueError.__new__" && PySem.W.keepIn K (.ref (He.ga K r.cls)) && decide (PySem.W.subIn K (.ref (He.ga K r.cls)) (.type "BaseException") = some true) && decide (PySem.W.typeIn K (.ref (He.ga K r.cls)) = some (.type "type"))
/-- an error's __init__ as it stands -/
structure InitIn where
  r : ErrRow
  f : Str
  d : He.DefD
structure InitIn.Ok (x : InitIn) : Prop where
  row : errRow x.r.cls = some x.r
  fld : x.r.fld = some x.f
  at_ : x.d.at_ = (x.r.cls, some ("__init__" : Str))
  dfl : x.d.dfl = []
  kwd : x.d.kwd = []
  sc : FnScope ["self", x.f] ["self", x.f] x.d.scope
  bd : initBody (rowBase x.r.cls).n x.f x.d.body = true
  gl : x.d.scope.names.lookup (rowBase x.r.cls).n = some .globalImplicit
  nf : (x.f == ("__debug__" : Str)) = false ∧ (x.f == ("__classdict__" : Str)) = false
  bnd : ∀ (kV doc pm : Value) (an : Option Addr) (cdv ct : Value) (us : List Value), us.length = 2 → bindArgs (PySem.W.fnOf x.d.name x.d.qual x.d.params x.d.body x.d.scope .none kV doc pm an cdv ct) ⟨us, []⟩ = pure ([("self" : Str), x.f].zip us)
def initsB (rs : List Str) (is : List InitIn) : Bool := rs.all fun c => match errRow c with
  | some r => r.fld.isNone || is.any fun x => decide (x.r.cls = c)
  | none => false
def upFa (c : Str) : He.Fa := if (rowBase c).n = "OverflowError" then .free "OverflowError" else .glo (rowBase c).n
/-- a def of the text: the core, where it stands, its parameters -/
structure DefIn where
  ix : Nat
  name : Str
  ns : List Str
  fd : FD
  d : He.DefD
  ps : List Str
structure DefIn.Ok (G : GI) (x : DefIn) : Prop where
  fix : G.fns[x.ix]? = some x.fd
  name : x.d.name = x.name
  qual : x.d.qual = x.name
  at_ : x.d.at_ = (x.name, none)
  dfl : x.d.dfl = []
  kwd : x.d.kwd = []
  sc : FnScope x.ns x.ps x.d.scope
  len : x.ps.length = x.fd.np
  nl : x.ns.length = x.fd.np + x.fd.nl
  chk : chkSs G x.ns x.d.scope x.fd.body x.d.body = true
  lamk : (!lamP x.d.scope || (G.lam.contains x.name && lamNames.contains x.name)) = true
  bnd : ∀ (kV doc pm : Value) (an : Option Addr) (cdv ct : Value) (us : List Value), us.length = x.ps.length → bindArgs (PySem.W.fnOf x.d.name x.d.qual x.d.params x.d.body x.d.scope .none kV doc pm an cdv ct) ⟨us, []⟩ = pure (x.ps.zip us)
/-- _law_said is among the defs -/
def saidIn (G : GI) (defs : List DefIn) : Bool := !G.said || (G.err && defs.any fun x => decide (x.name = "_law_said") && decide (x.ns = saidN) && decide (x.ps = [("_law_call" : Str)]) && G.sbd x.d.scope x.d.body)
abbrev errNames : List Str := errRows.map (·.cls)
def faOf (defs : List DefIn) (G : GI) : List He.Fa := defs.map (fun x => .glo x.name) ++ bltNames.map .free ++ G.tabs.map (fun t => .glo t.1) ++ (if G.err then [.glo "LiftError", .glo "MissError"] ++ errNames.map .glo else []) ++ (G.rs.map .glo ++ G.rs.map upFa)
def tsOf (G : GI) : List He.Tab := G.tabs.map fun t => (fun K => He.ga K t.1, t.2.map (·.1))
def fdOf (defs : List DefIn) (is : List InitIn) : List He.DefD := defs.map (·.d) ++ is.map (·.d)
def tfOf (G : GI) : List He.Defn := G.lam.map fun x => (x, none)
def nodupB (l : List Addr) : Bool := decide l.Nodup
def exOf (G : GI) (K : PySem.W.Frag) : Bool := G.cons.all (fun q => conK K q.1 q.2) && (G.tabs.all fun t => valK K t.1 t.2) && (!G.err || errsB K) && (G.rs.all fun c => match errRow c with | some r => raiseB K r | none => false) && (lamNames.all fun x => isFnB K x == G.lam.contains x) && nodupB ((tabsK K).map (·.1))
theorem errRow_self : ∀ r ∈ errRows, errRow r.cls = some r := by
  intro r hr
  simp only [errRows, List.cons_append, List.nil_append, List.mem_cons, List.not_mem_nil, or_false] at hr
  rcases hr with rfl | rfl | rfl | rfl | rfl | rfl | rfl | rfl | rfl | rfl | rfl | rfl <;> rfl
theorem nodup_snd {l : List (Addr × Str)} (h : (l.map (·.1)).Nodup) : ∀ p ∈ l, ∀ q ∈ l, p.1 = q.1 → p.2 = q.2 := by
  induction l with
  | nil => intro p hp; cases hp
  | cons a l ih =>
    simp only [List.map_cons, List.nodup_cons] at h
    intro p hp q hq e
    rcases List.mem_cons.mp hp with e1 | hp <;> rcases List.mem_cons.mp hq with e2 | hq
    · rw [e1, e2]
    · rw [e1] at e; exact absurd (List.mem_map.mpr ⟨q, hq, e.symm⟩) h.1
    · rw [e2] at e; exact absurd (List.mem_map.mpr ⟨p, hp, e⟩) h.1
    · exact ih h.2 p hp q hq e
theorem lookup_memN {α : Type} {x : Nat} {p : α} : ∀ {l : List (Nat × α)}, l.lookup x = some p → (x, p) ∈ l
  | [], h => by cases h
  | (y, q) :: r, h => by
    rw [List.lookup_cons] at h
    split at h
    · rename_i e
      have e' : x = y := by simpa using e
      cases h
      subst e'
      exact List.mem_cons_self ..
    · exact List.mem_cons_of_mem _ (lookup_memN h)
theorem lookup_mem' {α : Type} {x : Str} {p : α} : ∀ {l : List (Str × α)}, l.lookup x = some p → (x, p) ∈ l
  | [], h => by cases h
  | (y, q) :: r, h => by
    rw [List.lookup_cons] at h
    split at h
    · rename_i e
      have e' : x = y := by simpa using e
      cases h
      subst e'
      exact List.mem_cons_self ..
    · exact List.mem_cons_of_mem _ (lookup_mem' h)
theorem progOk {G : GI} {defs : List DefIn} {is : List InitIn} {w : World} {K : PySem.W.Frag} {h : Heap} {mg : Str → Option Value} (hG : G.nms = defs.map (fun x => (x.ix, x.name))) (ok : ∀ x ∈ defs, x.Ok G) (iok : ∀ x ∈ is, x.Ok) (hi : initsB G.rs is = true) (hsd : saidIn G defs = true) (hsb : G.sbd = saidBody G.plain) (X : K.In h) (N : h.Ns mainGlobals mg)
    (c : He.SaysX (faOf defs G) (fdOf defs is) (tsOf G) (tfOf G) (exOf G) w h K) : ProgOk G w K mg := by
  have hD := c.t.d
  have hex := c.more
  unfold exOf at hex
  simp only [Bool.and_eq_true] at hex
  obtain ⟨⟨⟨⟨⟨x1, x2⟩, x3⟩, x6⟩, x4⟩, x5⟩ := hex
  have fact : ∀ fa ∈ faOf defs G, fa.ok K = true := fun fa h => He.SaysD.facts hD h
  have glo : ∀ x ∈ defs, mg x.name = some (.ref (He.ga K x.name)) := fun x hx => He.glo_ok X N (fact _ (by
    unfold faOf
    exact List.mem_append_left _ (List.mem_append_left _ (List.mem_append_left _ (List.mem_append_left _ (List.mem_map.mpr ⟨x, hx, rfl⟩))))))
  have errFa : G.err = true → ∀ fa ∈ ([.glo "LiftError", .glo "MissError"] ++ errNames.map .glo : List He.Fa), fa.ok K = true := fun q fa h => fact fa (by
    unfold faOf
    rw [if_pos q]
    exact List.mem_append_left _ (List.mem_append_right _ h))
  have eLift : G.err = true → mg "LiftError" = some (.ref (He.ga K "LiftError")) := fun q => He.glo_ok X N (errFa q _ (by simp))
  have eMiss : G.err = true → mg "MissError" = some (.ref (He.ga K "MissError")) := fun q => He.glo_ok X N (errFa q _ (by simp))
  have eRow : G.err = true → ∀ r ∈ errRows, mg r.cls = some (.ref (He.ga K r.cls)) := fun q r hr => He.glo_ok X N (errFa q _ (List.mem_append_right _ (List.mem_map.mpr ⟨_, List.mem_map.mpr ⟨r, hr, rfl⟩, rfl⟩)))
  have eRs : ∀ y ∈ G.rs, mg y = some (.ref (He.ga K y)) := fun y hy => He.glo_ok X N (fact _ (by
    unfold faOf
    exact List.mem_append_right _ (List.mem_append_left _ (List.mem_map.mpr ⟨y, hy, rfl⟩))))
  have eUp : ∀ y ∈ G.rs, if (rowBase y).n = "OverflowError" then mg "OverflowError" = none else mg (rowBase y).n = some (.ref (He.ga K (rowBase y).n)) := fun y hy => by
    have z : (upFa y).ok K = true := fact _ (by
      unfold faOf
      exact List.mem_append_right _ (List.mem_append_right _ (List.mem_map.mpr ⟨y, hy, rfl⟩)))
    unfold upFa at z
    split at z
    · rename_i e; rw [if_pos e]; exact He.free_ok X N z
    · rename_i e; rw [if_neg e]; exact He.glo_ok X N z
  have funD : ∀ d ∈ fdOf defs is, ∃ fd, FunD K d.name d.qual d.params d.body d.scope (d.dvs K) (d.kws K) (He.fAd K d.at_) fd := fun d hd => He.SaysD.defs hD hd
  have dfd : ∀ x ∈ defs, ∃ fdt, FunD K x.name x.name x.d.params x.d.body x.d.scope [] [] (He.ga K x.name) fdt ∧ Binds K fdt x.ps [] := fun x hx => by
    have o := ok x hx
    obtain ⟨fdt, F⟩ := funD x.d (List.mem_append_left _ (List.mem_map.mpr ⟨x, hx, rfl⟩))
    have e1 : x.d.dvs K = [] := by unfold He.DefD.dvs; rw [o.dfl]; rfl
    have e2 : x.d.kws K = [] := by unfold He.DefD.kws; rw [o.kwd]; rfl
    have e3 : He.fAd K x.d.at_ = He.ga K x.name := by rw [o.at_]; rfl
    rw [e1, e2, e3] at F
    have bb := F.bindsN (ps := x.ps) fun kV doc pm an cdv ct us hl => o.bnd kV doc pm an cdv ct us hl
    rw [o.name, o.qual] at F
    exact ⟨fdt, F, bb⟩
  have errs : G.err = true → errsB K = true := fun q => by
    rw [q] at x3
    simpa using x3
  refine ⟨fun x hx => He.free_ok X N (fact _ (by
    unfold faOf
    exact List.mem_append_left _ (List.mem_append_left _ (List.mem_append_left _ (List.mem_append_right _ (List.mem_map.mpr ⟨x, hx, rfl⟩)))))), fun x p e => ?_, fun x t e => ?_, fun f fd e => ?_, fun q => ?_, fun y hy r ery => ⟨eRs y hy, fun P base => ?_⟩, fun q => ?_, nodup_snd (of_decide_eq_true x5), hsb⟩
  · have q := List.all_eq_true.mp x1 _ (lookup_mem' e)
    unfold conK at q
    split at q
    · rename_i u hu
      obtain ⟨v, r1, r2⟩ := rpB_ok _ _ _ q
      exact ⟨u, v, PySem.W.mg_of X N hu, r1, r2⟩
    · cases q
  · have hm := lookup_mem' e
    refine ⟨He.ga K x, He.glo_ok X N (fact _ (by
      unfold faOf
      exact List.mem_append_left _ (List.mem_append_left _ (List.mem_append_right _ (List.mem_map.mpr ⟨_, hm, rfl⟩))))), fun z d ez => ?_⟩
    obtain ⟨i, hi, ei⟩ := List.mem_iff_getElem.mp hm
    obtain ⟨es, n, kd⟩ := He.SaysT.tab c.t i (t := (fun K => He.ga K x, t.map (·.1))) (by
      unfold tsOf
      rw [List.getElem?_map, List.getElem?_eq_getElem hi, ei]
      rfl)
    have q := List.all_eq_true.mp x2 _ hm
    have q2 := List.all_eq_true.mp q _ (lookup_mem' ez)
    simp only at q2
    split at q2
    · rename_i u hu
      obtain ⟨v, r1, r2⟩ := rpB_ok _ _ _ q2
      exact ⟨v, ⟨es, n, u, kd.at_, kd.lit, hu, r1⟩, r2⟩
    · cases q2
  · have hm := lookup_memN e
    rw [hG] at hm
    obtain ⟨x, hx, ex⟩ := List.mem_map.mp hm
    cases ex
    have o := ok x hx
    obtain ⟨fdt, F, bb⟩ := dfd x hx
    refine ⟨x.ns, x.fd, He.ga K x.name, fdt, x.ps, o.fix, glo x hx, ⟨x.d.params, x.d.body, x.d.scope, F, o.sc, o.chk, fun q => ?_⟩, o.len, o.nl, bb⟩
    have lk := o.lamk
    rw [q] at lk
    simp only [Bool.not_true, Bool.false_or, Bool.and_eq_true] at lk
    have m : x.name ∈ lamNames := by simpa using lk.2
    have z := List.all_eq_true.mp x4 x.name m
    rw [lk.1] at z
    exact ⟨m, by simpa using z, rfl⟩
  · have z := errs q
    unfold errsB at z
    have row : ∀ r ∈ errRows, _ := fun r hr => List.all_eq_true.mp z r hr
    simp only [Bool.and_eq_true, decide_eq_true_eq, List.all_eq_true] at row
    exact ⟨eRow q, fun r hr => errC_of (row r hr).1.1, fun r hr q' hq' => (row r hr).1.2 q' hq', fun r hr => (row r hr).2, eLift q, eMiss q, eRow q ⟨"TooMany", "most", some "most"⟩ (by simp [errRows])⟩
  · have z := List.all_eq_true.mp x6 y hy
    rw [ery] at z
    simp only at z
    obtain ⟨hr, ecy⟩ := errRow_mem ery
    unfold raiseB at z
    unfold RaiseOk
    cases hf : r.fld with
    | none =>
      rw [hf] at z
      simp only [Bool.and_eq_true, decide_eq_true_eq] at z
      exact ⟨_, _, _, _, bsV.F, z.1.1.1, z.1.1.2, z.1.2, z.2⟩
    | some f =>
      rw [hf] at z
      simp only [Bool.and_eq_true, decide_eq_true_eq] at z
      obtain ⟨⟨⟨⟨nof, z1⟩, z2⟩, z3⟩, z4⟩ := z
      obtain ⟨b1, b2, b3⟩ := rowBase_bs r.cls
      have T := oexB_of b1 z1
      have hb := List.all_eq_true.mp hi y hy
      rw [ery] at hb
      simp only at hb
      rw [hf, ← ecy] at hb
      simp only [Option.isNone_some, Bool.false_or, List.any_eq_true, decide_eq_true_eq] at hb
      obtain ⟨x, hx, exr⟩ := hb
      have o := iok x hx
      have er : x.r = r := by
        have y := o.row
        rw [exr, errRow_self r hr] at y
        exact (Option.some.inj y).symm
      have ef : x.f = f := by
        have y := o.fld
        rw [er, hf] at y
        exact (Option.some.inj y).symm
      obtain ⟨fdt, F⟩ := funD x.d (List.mem_append_right _ (List.mem_map.mpr ⟨x, hx, rfl⟩))
      have e1 : x.d.dvs K = [] := by unfold He.DefD.dvs; rw [o.dfl]; rfl
      have e2 : x.d.kws K = [] := by unfold He.DefD.kws; rw [o.kwd]; rfl
      rw [e1, e2, o.at_, er] at F
      have bb := F.bindsN (ps := ["self", f]) fun kV doc pm an cdv ct us hl => by have y := o.bnd kV doc pm an cdv ct us hl; rw [ef] at y; exact y
      have hsc := o.sc
      have hbd := o.bd
      have hgl := o.gl
      have hnf := o.nf
      rw [ef] at hsc hbd hnf
      rw [er] at hbd hgl
      exact ⟨_, _, _, _, _, fdt, T, z2, z3, init_fn F hsc hbd T (upB_ok r.cls z4 (by rw [ecy]; exact eUp y hy)) b2 nof hgl b3 hnf.1 hnf.2, bb⟩
  · unfold saidIn at hsd
    rw [q] at hsd
    simp only [Bool.not_true, Bool.false_or, Bool.and_eq_true, List.any_eq_true, decide_eq_true_eq] at hsd
    obtain ⟨h1, x, hx, ⟨⟨⟨en, ens⟩, eps⟩, eb⟩⟩ := hsd
    have o := ok x hx
    obtain ⟨fdt, F, bb⟩ := dfd x hx
    have gx := glo x hx
    have sc := o.sc
    rw [en] at F gx
    rw [ens, eps] at sc
    rw [eps] at bb
    exact ⟨h1, _, fdt, x.d.params, x.d.body, x.d.scope, gx, F, sc, eb, bb⟩
/-- the law's own promise by the core -/
theorem sp_law {K : Kw} {m : List D → Hs → R D} {H : Hp} {a : Addr} {ns : List Int} {n : Nat} (hn : n ≤ sizeLine) (hl : ns.length ≤ n) (hT : ∀ p ∈ tabsK K.fr, H p.1 = some (.tbl #[])) (hS : SqL K.fr H a (ns.map V.int)) (hm : ∃ S', m [.scr ns] [] = .ok (dB true) S') : spF K 1 m [.ref a] H (fun v _ => v = .bl true) E0 := by
  obtain ⟨S', e⟩ := hm
  have nl : ∀ b, ¬ Lv (fun _ => False) [] [] b := fun b z => z.elim (fun ⟨n, o, h1, _⟩ => by simp at h1) id
  refine ⟨fun _ => False, [], [], [.scr ns], ⟨fun p hp => ⟨#[], hT p hp, nl _, trivial, fun pos cv hc => ?_⟩, fun _ h => h.elim, rfl, .nil, fun _ h => (nomatch h), fun n o a h => (by simp at h)⟩, .cons ⟨a, rfl, by omega, ?_⟩ .nil, rfl, ?_⟩
  · have z : codeAmong pos [] = some cv := hc
    simp [codeAmong] at z
  · rcases hS with h | h
    · exact .inl ⟨h, nl _⟩
    · exact .inr h
  · rw [e]
    intro v μ' H' _ _ r
    cases r
    rfl
/-- the one row of the world that a dict display at the top asks -/
def setRow (w : World) (b : Bool) : World := { w with params := { w.params with followText := fun x => if x = "special-get-raises" then b else w.params.followText x } }
theorem by_row {P : World → Prop} (h : ∀ (w : World) (b : Bool), P (setRow w b)) (w : World) : P w := by
  have e : w = setRow w (w.params.followText "special-get-raises") := by
    obtain ⟨d, p⟩ := w
    unfold setRow
    congr 1
    cases p
    congr 1
    funext x
    split
    · rename_i e; rw [e]
    · rfl
  rw [e]
  exact h w _
def trueR : R D → Bool
  | .ok (.dat (.bool true)) _ => true
  | _ => false
theorem true_of {r : R D} (h : trueR r = true) : ∃ S', r = .ok (dB true) S' := by
  unfold trueR at h
  split at h
  · exact ⟨_, rfl⟩
  · cases h
/-- the heap at the law's start: the script and the empty tables of code objects may be tracked -/
def scriptH (s : Option (Addr × Obj × List V)) (T : List Addr) : Hp := fun b => match s with
  | some (a, o, xs) => if b = a then some (.frz o (.lst xs)) else if b ∈ T then some (.tbl #[]) else none
  | none => if b ∈ T then some (.tbl #[]) else none
/-- the law is called: no guard stands around -/
theorem law_callG {P : Program} {w : World} {K : PySem.W.Frag} {mg mb : Str → Option Value} {k : Nat} {fa a : Addr} {cs : List (Addr × Addr)} {fd : FuncData} {x : Str} {sp : Sp} {s₁ : Shared} {vs : List Value} {ns : List Int}
    (KX : K.In s₁.heap) (hns : s₁.heap.Ns mainGlobals mg) (hb : s₁.heap.Ns builtinsNs mb) (hbb : ∀ x : Str, x ≠ "__name__" → mb x = bootBuiltins x) (hlim : s₁.heap.NoLimit) (hg : s₁.gens = #[])
    (hT : ∀ p ∈ cs, s₁.heap.get? p.2 = some (PySem.W.tabObj #[])) (nT : ∀ p ∈ cs, K.lookup p.2 = none) (hC : ∀ p ∈ cs, PySem.W.CodeHd s₁.heap p.1 p.2)
    (hbm : ∃ (bm : Addr) (ob : Obj), mg "__builtins__" = some (.ref bm) ∧ bm ≠ builtinsNs ∧ s₁.heap.get? bm = some ob ∧ ob.cls = .type "module" ∧ ob.dict = some builtinsNs ∧ ob.data = .plain)
    (ha : s₁.heap.get? a = some { cls := .type "list", data := .seq vs.toArray }) (hi : IntsAre vs ns) (hl : ns.length ≤ sizeLine) (hr : Room k callerA)
    (F : ∀ base : Heap, K.In base → base.Ns mainGlobals mg → (∀ p ∈ cs, LamX.TabB base mg p.1 p.2) → FnG P w K mg base (CX P w) k fa fd [x] sp) (hbind : ∀ (s : Shared) (u : Value), BindsTo s fd ⟨[u], []⟩ [(x, u)])
    (hsp : ∀ H : Hp, (∀ p ∈ cs, H p.2 = some (.tbl #[])) → SqL K H a (ns.map V.int) → sp [.ref a] H (fun v _ => v = .bl true) E0) :
    codeAny (model P w) callerA (.call (.ref fa) ⟨[.ref a], []⟩) (fun r s' => r = .ok (.ret (.bool true)) ∧ OldK s₁.heap s'.heap ∧ s'.os = s₁.os ∧ AllBare s'.gens) s₁ := by
  have rv := vals_ints hi
  have isT : ∀ b, b ∈ cs.map (·.2) → s₁.heap.get? b = some (PySem.W.tabObj #[]) := fun b hb => by
    obtain ⟨p, hp, rfl⟩ := List.mem_map.mp hb
    exact hT p hp
  have inT : ∀ p ∈ cs, p.2 ∈ cs.map (·.2) := fun p hp => List.mem_map.mpr ⟨p, hp, rfl⟩
  have naT : a ∉ cs.map (·.2) := fun z => by
    have q := isT a z
    rw [ha] at q
    injection q with q
    injection q with _ _ q _
    cases q
  have go : ∀ H : Hp, (∀ p ∈ cs, H p.2 = some (.tbl #[])) → SqL K H a (ns.map V.int) → HOk P w H s₁.heap → (∀ b u, H b = some u → (b = a ∧ K.lookup a = none ∧ ∃ o xs, u = .frz o (.lst xs)) ∨ b ∈ cs.map (·.2)) →
      codeAny (model P w) callerA (.call (.ref fa) ⟨[.ref a], []⟩) (fun r s' => r = .ok (.ret (.bool true)) ∧ OldK s₁.heap s'.heap ∧ s'.os = s₁.os ∧ AllBare s'.gens) s₁ := by
    intro H hH hS hok hA
    have loose : ∀ {b : Addr} {o : Obj}, s₁.heap.get? b = some o → (∀ its n, o.data ≠ .seq its n) → o.data ≠ .fields #[] → H b = none := fun {b o} e d1 d2 => by
      cases q : H b with
      | none => rfl
      | some u =>
        rcases hA b u q with ⟨rfl, _⟩ | z
        · rw [ha] at e
          cases e
          exact absurd rfl (d1 _ _)
        · rw [isT b z] at e
          cases e
          exact absurd rfl d2
    have nsK : ∀ {b : Addr} {m : Str → Option Value}, s₁.heap.Ns b m → (hidT s₁.heap H).Ns b m := fun ⟨o, es, ep, e, d, r⟩ => ⟨o, es, ep, hidT_get e (loose e (fun _ _ z => by rw [d] at z; cases z) fun z => by rw [d] at z; cases z), d, r⟩
    have kin : K.In (hidT s₁.heap H) := fun b o e => hidT_get (KX b o e) (by
      cases q : H b with
      | none => rfl
      | some u =>
        rcases hA b u q with ⟨rfl, z, _⟩ | z
        · rw [z] at e; cases e
        · obtain ⟨p, hp, rfl⟩ := List.mem_map.mp z
          rw [nT p hp] at e; cases e)
    have hM : Mod K mg (hidT s₁.heap H) := ⟨kin, nsK hns, ⟨mb, nsK hb, hbb⟩, hlim.elim fun mc z => ⟨mc, nsK z.1, z.2⟩⟩
    have TB : ∀ p ∈ cs, LamX.TabB (hidT s₁.heap H) mg p.1 p.2 := fun p hp => by
      refine ⟨?_, ?_, fun z => ?_⟩
      · obtain ⟨o, us, q1, q2, q3, q4, q5, q6, q7, e1, r1, r2, r3, rest⟩ := hC p hp
        exact ⟨o, us, q1, q2, q3, q4, q5, q6, q7, hidT_get e1 (loose e1 (fun _ _ z => by rw [r2] at z; cases z) fun z => by rw [r2] at z; cases z; simp at r3), r1, r2, r3, rest⟩
      · obtain ⟨bm, ob, b1, b2, b3, b4, b5, b6⟩ := hbm
        refine ⟨bm, ob, b1, b2, fun q => ?_, fun q => ?_, hidT_get b3 (loose b3 (fun _ _ z => by rw [b6] at z; cases z) fun z => by rw [b6] at z; cases z), b4, b5, b6⟩
        · obtain ⟨o, es, ep, e, d, _⟩ := hns
          rw [q, e] at b3
          cases b3
          rw [d] at b6
          cases b6
        · rw [q, hT p hp] at b3
          cases b3
          cases b6
      · obtain ⟨o, es, ep, e, d, _⟩ := hns
        rw [z, hT p hp] at e
        cases e
        cases d
    have e0 : Env0 P w K mg (hidT s₁.heap H) callerA [] s₁ H := ⟨rfl, hM, fun b o e => of_hidT e, Nat.le_of_eq (hidT_size _ _), trivial, fun b hb => absurd hb List.not_mem_nil, hok, .of_eq hg⟩
    refine codeAny_mono ((F _ kin (nsK hns) TB).run callerA [] s₁ H ⟨[.ref a], []⟩ [.ref a] [.ref a] _ _ hr rfl e0 (hbind s₁ (.ref a)) (.cons rfl .nil) (hsp H hH hS)) fun r s' h => ?_
    rcases r with e | fl
    · obtain ⟨_, _, _, _, _, _, _, _, _, _, _, _, z⟩ := h
      exact z.elim
    · cases fl with
      | ret u =>
        obtain ⟨v, H', os, bare, un, hok', r', q⟩ := h
        cases q
        cases r'
        have kept : ∀ b o, b ∉ cs.map (·.2) → s₁.heap.get? b = some o → s'.heap.get? b = some o := fun b o nb e => by
          cases q : H b with
          | none => exact un.keep b o e q (fun z => absurd z List.not_mem_nil) List.not_mem_nil
          | some u =>
            rcases hA b u q with ⟨_, _, ob, xs, rfl⟩ | z
            · have e1 := (hok b _ q).1
              rw [e] at e1
              cases e1
              exact (hok' b _ (un.frzs b _ _ q)).1
            · exact absurd z nb
        have grown : ∀ p ∈ cs, ∃ more : Array Value, s'.heap.get? p.2 = some (PySem.W.tabObj more) := fun p hp => by
          obtain ⟨more, z⟩ := un.tbls p.2 #[] (hH p hp)
          exact ⟨_, hok' p.2 _ z⟩
        refine ⟨rfl, ⟨fun b o e => ?_, fun b o e => ?_⟩, os, bare⟩
        · by_cases hb : b ∈ cs.map (·.2)
          · obtain ⟨p, hp, rfl⟩ := List.mem_map.mp hb
            obtain ⟨more, hm⟩ := grown p hp
            rw [hT p hp] at e
            cases e
            exact .inr (.inl ⟨((hC p hp).tab (hT p hp)).isCodeTable, rfl, #[], more, rfl, by rw [Array.empty_append]; exact hm⟩)
          · exact .inl (kept b o hb e)
        · by_cases hb : b ∈ cs.map (·.2)
          · obtain ⟨p, hp, rfl⟩ := List.mem_map.mp hb
            exact (grown p hp).elim fun more hm => ⟨_, hm⟩
          · exact ⟨o, kept b o hb e⟩
      | _ => exact False.elim h
  cases hk : K.lookup a with
  | some o =>
    have e := KX a o hk
    rw [ha] at e
    cases e
    refine go (scriptH none (cs.map (·.2))) (fun p hp => by simp only [scriptH]; exact if_pos (inT p hp)) (.inr ⟨_, vs.toArray, _, hk, rfl, rfl, rfl, by rw [List.size_toArray, hi.length]; exact hl, by simpa using rv⟩) (fun b u z => ?_) fun b u z => ?_
    · simp only [scriptH] at z
      split at z
      · rename_i hb; cases z; exact isT b hb
      · cases z
    · simp only [scriptH] at z
      split at z
      · rename_i hb; exact .inr hb
      · cases z
  | none =>
    refine go (scriptH (some (a, { cls := .type "list", data := .seq vs.toArray }, ns.map V.int)) (cs.map (·.2))) (fun p hp => ?_) (.inl (.inr ⟨{ cls := .type "list", data := .seq vs.toArray }, if_pos rfl⟩)) (fun b u z => ?_) fun b u z => ?_
    · simp only [scriptH]
      rw [if_neg (show ¬ p.2 = a from fun z => naT (z ▸ inT p hp)), if_pos (inT p hp)]
    · simp only [scriptH] at z
      split at z
      · rename_i hb
        subst hb
        cases z
        exact ⟨ha, by rw [List.length_map]; exact hl, vs, _, rv, ha⟩
      · split at z
        · rename_i hb; cases z; exact isT b hb
        · cases z
    · simp only [scriptH] at z
      split at z
      · rename_i hb
        cases z
        exact .inl ⟨hb, hk, _, _, rfl⟩
      · split at z
        · rename_i hb; exact .inr hb
        · cases z
/-! ### the head's look: what the names reach, and the interpreter's own table -/
abbrev ZO := List He.Fa × List He.DefD × List He.Tab × List He.Defn
def lookZ (as : List Addr) (z : ZO) (ex : PySem.W.Frag → Bool) (g : Addr → Option Obj) : He.AlX :=
  let K := He.frT g as
  (He.obsT z.1 z.2.1 z.2.2.1 K, ex K && He.tabsB g z.2.2.2 K)
theorem lookZ_says {as : List Addr} {z : ZO} {ex : PySem.W.Frag → Bool} {w : World} {h : Heap} (e : lookZ as z ex h.get? = He.valX z.2.1 z.2.2.1 w) : He.SaysX z.1 z.2.1 z.2.2.1 z.2.2.2 ex w h (He.frT h.get? as) := by
  have a1 := (Prod.mk.inj e).1
  have a2 : (ex (He.frT h.get? as) && He.tabsB h.get? z.2.2.2 (He.frT h.get? as)) = true := (Prod.mk.inj e).2
  generalize hK : He.frT h.get? as = K at a1 a2 ⊢
  rw [Bool.and_eq_true] at a2
  have each : ∀ p ∈ z.2.2.2, PySem.W.codeHdIn K (He.cT K p).1 (He.cT K p).2 = true ∧ ∃ o, h.get? (He.cT K p).2 = some o ∧ He.emptyTab o = true := fun p hp => by
    have q := List.all_eq_true.mp a2.2 p hp
    rw [Bool.and_eq_true] at q
    refine ⟨q.1, ?_⟩
    have q2 := q.2
    split at q2
    · rename_i o eo; exact ⟨o, eo, q2⟩
    · cases q2
  refine ⟨a1, a2.1, fun p hp => (each p hp).1, fun p hp => ?_, fun p hp => ?_⟩
  · obtain ⟨_, o, eo, et⟩ := each p hp
    rw [← hK] at eo ⊢
    exact He.frT_none eo et
  · obtain ⟨_, o, eo, et⟩ := each p hp
    rw [eo, He.emptyTab_eq et]
def addrs (g : Addr → Option Obj) (n : Nat) : List Addr := He.asD g n ++ [cStatics]
def hookZ (n : Nat) (z : ZO) (ex : PySem.W.Frag → Bool) : PySem.W.Hook where
  α := He.AlX
  obs := fun s => lookZ (addrs s.heap.get? n) z ex s.heap.get?
  val := fun w => He.valX z.2.1 z.2.2.1 w
  says := fun w h => ∃ K : PySem.W.Frag, K.In h ∧ He.SaysX z.1 z.2.1 z.2.2.1 z.2.2.2 ex w h K
  of := fun _ _ e => ⟨_, He.frT_in, lookZ_says e⟩
  keeps := fun _ _ _ ⟨K, hi, c⟩ k => ⟨K, hi.keeps k, { c with empty := fun p hp => k _ _ (c.empty p hp) }⟩
theorem lookZ_eq {n : Nat} {z : ZO} {ex : PySem.W.Frag → Bool} {g : Addr → Option Obj} {s : Shared} (h : ∀ a, g a = s.heap.get? a) : lookZ (addrs g n) z ex g = (hookZ n z ex).obs s := by
  obtain rfl : g = s.heap.get? := funext h
  rfl
/-- a law's end over a head by facts -/
theorem walk_G {l : PySem.W.OpenLaw} {n k : Nat} {q : Program} {loose : List Str} {XP : (Str → Option Value) → Heap → Prop} {YP : World → Heap → Prop} {d : DefRec} {x : Str}
    (hn : l.most = some n) (hn2 : n ≤ sizeLine) (hdf : d.params.defaults = []) (hr : Room k callerA)
    (F : ∀ (w : World) (mg : Str → Option Value) (fa : Addr) (h : Heap), YP w h → h.Ns mainGlobals mg → mg d.name = some (.ref fa) →
      ∃ (K : PySem.W.Frag) (fd : FuncData) (sp : Sp) (cs : List (Addr × Addr)), K.In h ∧ (∀ p ∈ cs, h.get? p.2 = some (PySem.W.tabObj #[])) ∧ (∀ p ∈ cs, K.lookup p.2 = none) ∧ (∀ p ∈ cs, PySem.W.CodeHd h p.1 p.2) ∧ (∀ (s : Shared) (u : Value), BindsTo s fd ⟨[u], []⟩ [(x, u)]) ∧
        (∀ (H : Hp) (a : Addr) (ns : List Int), ns.length ≤ n → (∀ p ∈ cs, H p.2 = some (.tbl #[])) → SqL K H a (ns.map V.int) → sp [.ref a] H (fun v _ => v = .bl true) E0) ∧
        ∀ base : Heap, K.In base → base.Ns mainGlobals mg → (∀ p ∈ cs, LamX.TabB base mg p.1 p.2) → FnG l.prog w K mg base (CX l.prog w) k fa fd [x] sp) :
    PySem.W.WalkO q loose XP YP l.row.toRowW d [] (fun f vs => PySem.call f vs) := by
  refine Att.attach_call hn hdf fun w s₀ s₁ mg mb fa o pm cd doc a vs ns G Y ho hd hcd hmg hobj hints hlen hg => ?_
  obtain ⟨K, fd, sp, cs, KX, hT, nT, hC, hb, hsp, hF⟩ := F w mg fa _ Y G.T.g hmg
  exact law_callG KX G.T.g G.T.b G.T.builtins G.T.nolimit hg hT nT hC G.T.bmain hobj hints (Nat.le_trans hlen hn2) hr hF hb fun H hO hS => hsp H a ns hlen hO hS
/-- the whole: head facts, checked defs, the law's own value in the core -/
theorem law_fin {G : GI} {defs : List DefIn} {is : List InitIn} {prog : Program} {w : World} {K : PySem.W.Frag} {h : Heap} {mg : Str → Option Value} {k f n : Nat} {fa : Addr} {x : DefIn} {p : Str} (hG : G.nms = defs.map (fun x => (x.ix, x.name))) (ok : ∀ x ∈ defs, x.Ok G) (iok : ∀ x ∈ is, x.Ok) (hi : initsB G.rs is = true) (hsd : saidIn G defs = true) (hsb : G.sbd = saidBody G.plain)
    (KX : K.In h) (N : h.Ns mainGlobals mg) (c : He.SaysX (faOf defs G) (fdOf defs is) (tsOf G) (tfOf G) (exOf G) w h K) (hmem : x ∈ defs) (hix : x.ix = f) (hp : x.ps = [p]) (hm : mg x.name = some (.ref fa)) (hn : n ≤ sizeLine)
    (hl : ∀ ns : List Int, ns.length ≤ n → ∃ S', evF G.fns k f [.scr ns] [] = .ok (dB true) S') :
      ∃ (K : PySem.W.Frag) (fd : FuncData) (sp : Sp) (cs : List (Addr × Addr)), K.In h ∧ (∀ p ∈ cs, h.get? p.2 = some (PySem.W.tabObj #[])) ∧ (∀ p ∈ cs, K.lookup p.2 = none) ∧ (∀ p ∈ cs, PySem.W.CodeHd h p.1 p.2) ∧ (∀ (s : Shared) (u : Value), BindsTo s fd ⟨[u], []⟩ [(p, u)]) ∧
        (∀ (H : Hp) (a : Addr) (ns : List Int), ns.length ≤ n → (∀ p ∈ cs, H p.2 = some (.tbl #[])) → SqL K H a (ns.map V.int) → sp [.ref a] H (fun v _ => v = .bl true) E0) ∧
        ∀ base : Heap, K.In base → base.Ns mainGlobals mg → (∀ p ∈ cs, LamX.TabB base mg p.1 p.2) → FnG prog w K mg base (CX prog w) (3 * k + 2) fa fd [p] sp := by
  have o := ok x hmem
  have pg := progOk hG ok iok hi hsd hsb KX N c
  have hf : G.fns[f]? = some x.fd := by rw [← hix]; exact o.fix
  obtain ⟨fdt2, F⟩ := He.SaysD.defs c.t.d (d := x.d) (List.mem_append_left _ (List.mem_map.mpr ⟨x, hmem, rfl⟩))
  have e1 : x.d.dvs K = [] := by unfold He.DefD.dvs; rw [o.dfl]; rfl
  have e2 : x.d.kws K = [] := by unfold He.DefD.kws; rw [o.kwd]; rfl
  have e3 : He.fAd K x.d.at_ = He.ga K x.name := by rw [o.at_]; rfl
  rw [e1, e2, e3] at F
  have efa : He.ga K x.name = fa := by
    have glo : mg x.name = some (.ref (He.ga K x.name)) := He.glo_ok KX N (He.SaysD.facts c.t.d (by
      unfold faOf
      exact List.mem_append_left _ (List.mem_append_left _ (List.mem_append_left _ (List.mem_append_left _ (List.mem_map.mpr ⟨x, hmem, rfl⟩))))))
    rw [glo] at hm
    injection hm with z
    injection z
  have bb := F.bindsN (ps := x.ps) fun kV doc pm an cdv ct us hl => o.bnd kV doc pm an cdv ct us hl
  have hbt : ∀ (s : Shared) (u : Value), BindsTo s fdt2 ⟨[u], []⟩ [(p, u)] := fun s u => by
    have z := F.bindsA (ps := x.ps) (fun kV doc pm an cdv ct us hl => o.bnd kV doc pm an cdv ct us hl) s [u] (by rw [hp]; rfl)
    rw [hp] at z
    exact z
  rw [o.name, o.qual, efa] at F
  rw [hp] at bb
  have lenp : x.fd.np = 1 := by rw [← o.len, hp]; rfl
  have hex := c.more
  unfold exOf at hex
  simp only [Bool.and_eq_true] at hex
  have isf : ∀ y ∈ lamNames, isFnB K y = true → (y, none) ∈ tfOf G := fun y hy q => by
    have z := List.all_eq_true.mp hex.1.2 y hy
    rw [q] at z
    exact List.mem_map.mpr ⟨y, by simpa using z, rfl⟩
  have csm : ∀ q ∈ (lamNames.filter (isFnB K)).map (fun y => He.cT K (y, none)), ∃ d ∈ tfOf G, He.cT K d = q := fun q hq => by
    obtain ⟨y, hy, e⟩ := List.mem_map.mp hq
    obtain ⟨h1, h2⟩ := List.mem_filter.mp hy
    exact ⟨(y, none), isf y h1 h2, e⟩
  refine ⟨K, fdt2, spF ⟨K, w, mg⟩ x.fd.np (evF G.fns k f), (lamNames.filter (isFnB K)).map (fun y => He.cT K (y, none)), KX, fun q hq => ?_, fun q hq => ?_, fun q hq => ?_, hbt, fun H a ns hle hO hS => ?_, fun base kb nb tb => ?_⟩
  · obtain ⟨d, hd, rfl⟩ := csm q hq
    exact c.empty d hd
  · obtain ⟨d, hd, rfl⟩ := csm q hq
    exact c.out d hd
  · obtain ⟨d, hd, rfl⟩ := csm q hq
    exact PySem.W.codeHd_of_K KX (c.hd d hd)
  · rw [lenp]
    refine sp_law hn hle (fun q hq => ?_) hS (hl ns hle)
    obtain ⟨y, hy, rfl⟩ := List.mem_map.mp hq
    exact hO _ (List.mem_map.mpr ⟨y, hy, rfl⟩)
  · refine prog_fn (P := prog) (base := base) pg (fun y hy q => tb _ (List.mem_map.mpr ⟨y, List.mem_filter.mpr ⟨hy, q⟩, rfl⟩)) k f x.name x.ns x.fd fa fdt2 [p] hf ⟨hm, ⟨x.d.params, x.d.body, x.d.scope, F, by rw [← hp]; exact o.sc, o.chk, fun q => ?_⟩, by rw [lenp]; rfl, o.nl, bb⟩
    have lk := o.lamk
    rw [q] at lk
    simp only [Bool.not_true, Bool.false_or, Bool.and_eq_true] at lk
    have m : x.name ∈ lamNames := by simpa using lk.2
    have z := List.all_eq_true.mp hex.1.2 x.name m
    rw [lk.1] at z
    exact ⟨m, by simpa using z, efa.symm⟩
end L2.LC

/-! LP: the table of defs in the core (printed by gen.py). -/
namespace L2.LC
open PySem
def s_rule : Str := ⟨#[114, 117, 108, 101]⟩
def s_state : Str := ⟨#[115, 116, 97, 116, 101]⟩
def s_play : Str := ⟨#[112, 108, 97, 121]⟩
def s_paper : Str := ⟨#[112, 97, 112, 101, 114]⟩
def s_log : Str := ⟨#[108, 111, 103]⟩
def s_text : Str := ⟨#[116, 101, 120, 116]⟩
def s_event : Str := ⟨#[101, 118, 101, 110, 116]⟩
def s_button : Str := ⟨#[98, 117, 116, 116, 111, 110]⟩
def s_measure : Str := ⟨#[109, 101, 97, 115, 117, 114, 101]⟩
def s_most : Str := ⟨#[109, 111, 115, 116]⟩
def s_missing : Str := ⟨#[109, 105, 115, 115, 105, 110, 103]⟩
def s_question : Str := ⟨#[113, 117, 101, 115, 116, 105, 111, 110]⟩
def s_said : Str := ⟨#[115, 97, 105, 100]⟩
def s_great : Str := ⟨#[103, 114, 101, 97, 116]⟩
def s_seed : Str := ⟨#[115, 101, 101, 100]⟩
def s_turns : Str := ⟨#[116, 117, 114, 110, 115]⟩
def s_in : Str := ⟨#[105, 110]⟩
def s_up : Str := ⟨#[117, 112]⟩
def s_down : Str := ⟨#[100, 111, 119, 110]⟩
def s_floors : Str := ⟨#[102, 108, 111, 111, 114, 115]⟩
def s_buttons : Str := ⟨#[98, 117, 116, 116, 111, 110, 115]⟩
def s_pick : Str := ⟨#[112, 105, 99, 107]⟩
def s_sweep : Str := ⟨#[115, 119, 101, 101, 112]⟩
def s_nearest : Str := ⟨#[110, 101, 97, 114, 101, 115, 116]⟩
def s_eldest : Str := ⟨#[101, 108, 100, 101, 115, 116]⟩
def s_take : Str := ⟨#[116, 97, 107, 101]⟩
def s_all : Str := ⟨#[97, 108, 108]⟩
def s_way : Str := ⟨#[119, 97, 121]⟩
def s_end : Str := ⟨#[101, 110, 100]⟩
def s_rest : Str := ⟨#[114, 101, 115, 116]⟩
def s_stay : Str := ⟨#[115, 116, 97, 121]⟩
def s_home : Str := ⟨#[104, 111, 109, 101]⟩
def s_hold : Str := ⟨#[104, 111, 108, 100]⟩
def s_quick : Str := ⟨#[113, 117, 105, 99, 107]⟩
def s_open : Str := ⟨#[111, 112, 101, 110]⟩
def s_floor : Str := ⟨#[102, 108, 111, 111, 114]⟩
def s_heading : Str := ⟨#[104, 101, 97, 100, 105, 110, 103]⟩
def s_none : Str := ⟨#[110, 111, 110, 101]⟩
def s_door : Str := ⟨#[100, 111, 111, 114]⟩
def s_wants : Str := ⟨#[119, 97, 110, 116, 115]⟩
def s_step : Str := ⟨#[115, 116, 101, 112]⟩
def s_press : Str := ⟨#[112, 114, 101, 115, 115]⟩
def s_unlike_floors_or_buttons : Str := ⟨#[117, 110, 108, 105, 107, 101, 32, 102, 108, 111, 111, 114, 115, 32, 111, 114, 32, 98, 117, 116, 116, 111, 110, 115]⟩
def s_steps : Str := ⟨#[115, 116, 101, 112, 115]⟩
def s_away : Str := ⟨#[97, 119, 97, 121]⟩
def s_passed : Str := ⟨#[112, 97, 115, 115, 101, 100]⟩
def s_kept : Str := ⟨#[107, 101, 112, 116]⟩
def s_lead : Str := ⟨#[108, 101, 97, 100]⟩
def s_ring : Str := ⟨#[114, 105, 110, 103]⟩
def s_ranks : Str := ⟨#[114, 97, 110, 107, 115]⟩
def s_form : Str := ⟨#[102, 111, 114, 109]⟩
def s_no_tuple_of_some_rules : Str := ⟨#[110, 111, 32, 116, 117, 112, 108, 101, 32, 111, 102, 32, 115, 111, 109, 101, 32, 114, 117, 108, 101, 115]⟩
def s_past : Str := ⟨#[112, 97, 115, 116]⟩
def s_events : Str := ⟨#[101, 118, 101, 110, 116, 115]⟩
def s_answers : Str := ⟨#[97, 110, 115, 119, 101, 114, 115]⟩
def s__ : Str := ⟨#[46]⟩
def s_no_row_of_events : Str := ⟨#[110, 111, 32, 114, 111, 119, 32, 111, 102, 32, 101, 118, 101, 110, 116, 115]⟩
def s_d : Str := ⟨#[100]⟩
def s_0123456789 : Str := ⟨#[48, 49, 50, 51, 52, 53, 54, 55, 56, 57]⟩
def s_u : Str := ⟨#[117]⟩
def s_0 : Str := ⟨#[48]⟩
def s_i : Str := ⟨#[105]⟩
def tab_WAYS : List (Str × PyData) := [(s_up, (.int 1)), (s_down, (.int (-1))), (s_none, (.int 0))]
def tab_WORDS : List (Str × PyData) := [(s_i, (.str s_in)), (s_u, (.str s_up)), (s_d, (.str s_down))]
def fd_is_whole : FD := ⟨3, 0, (.cons (.ret (.and (.isi .int (.var 0)) (.and (.nt (.isi .bool (.var 0))) (.chn .le .le (.var 1) (.var 0) (.var 2))))) .nil)⟩
def fd_is_word : FD := ⟨2, 0, (.cons (.ret (.and (.isi .str (.var 0)) (.cmp .isin (.var 0) (.var 1)))) .nil)⟩
def fd_is_button : FD := ⟨2, 0, (.cons (.cond (.or (.nt (.isi .tuple (.var 1))) (.or (.cmp .ne (.bf .len (.cons (.var 1) .nil)) (.cst (.int 2))) (.nt (.call 1 (.cons (.idx (.var 1) (.cst (.int 0))) (.cons (.tup (.cons (.cst (.str s_in)) (.cons (.cst (.str s_up)) (.cons (.cst (.str s_down)) .nil)))) .nil)))))) (.cons (.ret (.cst (.bool false))) .nil) .nil) (.cons (.ret (.call 0 (.cons (.idx (.var 1) (.cst (.int 1))) (.cons (.bf .int (.cons (.cmp .eq (.idx (.var 1) (.cst (.int 0))) (.cst (.str s_down))) .nil)) (.cons (.bin .sub (.bin .sub (.var 0) (.cst (.int 1))) (.bf .int (.cons (.cmp .eq (.idx (.var 1) (.cst (.int 0))) (.cst (.str s_up))) .nil))) .nil))))) .nil))⟩
def fd_are_rising : FD := ⟨1, 2, (.cons (.ret (.bf .all (.cons (.comp (.cmp .lt (.var 1) (.var 2)) (.tup (.cons (.name 1) (.cons (.name 2) .nil))) [1, 2] (.zip (.var 0) (.slc (.var 0) (.some (.cst (.int 1))) .none)) .none) .nil))) .nil)⟩
def fd_are_buttons : FD := ⟨2, 1, (.cons (.cond (.or (.nt (.call 0 (.cons (.var 0) (.cons (.cst (.int 2)) (.cons (.cst (.int 6)) .nil))))) (.or (.nt (.isi .tuple (.var 1))) (.nt (.chn .le .le (.cst (.int 1)) (.bf .len (.cons (.var 1) .nil)) (.cst (.int 6)))))) (.cons (.ret (.cst (.bool false))) .nil) .nil) (.cons (.ret (.and (.bf .all (.cons (.comp (.call 2 (.cons (.var 0) (.cons (.var 2) .nil))) (.name 2) [2] (.seq (.var 1)) .none) .nil)) (.call 3 (.cons (.var 1) .nil)))) .nil))⟩
def fd_rule_fault : FD := ⟨1, 12, (.cons (.cond (.or (.nt (.isi .tuple (.var 0))) (.cmp .ne (.bf .len (.cons (.var 0) .nil)) (.cst (.int 8)))) (.cons (.ret (.tup .nil)) .nil) .nil) (.cons (.asg (.tup (.cons (.name 1) (.cons (.name 2) (.cons (.name 3) (.cons (.name 4) (.cons (.name 5) (.cons (.name 6) (.cons (.name 7) (.cons (.name 8) .nil))))))))) (.var 0)) (.cons (.asg (.name 9) (.lst (.cons (.tup (.cons (.cst (.str s_floors)) (.cons (.call 0 (.cons (.var 1) (.cons (.cst (.int 2)) (.cons (.cst (.int 6)) .nil)))) .nil))) (.cons (.tup (.cons (.cst (.str s_buttons)) (.cons (.call 4 (.cons (.var 1) (.cons (.var 2) .nil))) .nil))) .nil)))) (.cons (.asg (.name 9) (.bin .add (.var 9) (.lst (.cons (.tup (.cons (.cst (.str s_pick)) (.cons (.call 1 (.cons (.var 3) (.cons (.cst (.tuple [(.str s_sweep), (.str s_nearest), (.str s_eldest)])) .nil))) .nil))) (.cons (.tup (.cons (.cst (.str s_take)) (.cons (.call 1 (.cons (.var 4) (.cons (.cst (.tuple [(.str s_all), (.str s_way), (.str s_end)])) .nil))) .nil))) (.cons (.tup (.cons (.cst (.str s_rest)) (.cons (.call 1 (.cons (.var 5) (.cons (.cst (.tuple [(.str s_stay), (.str s_home)])) .nil))) .nil))) .nil)))))) (.cons (.asg (.name 9) (.bin .add (.var 9) (.lst (.cons (.tup (.cons (.cst (.str s_hold)) (.cons (.isi .bool (.var 6)) .nil))) (.cons (.tup (.cons (.cst (.str s_quick)) (.cons (.isi .bool (.var 7)) .nil))) .nil))))) (.cons (.asg (.name 9) (.bin .add (.var 9) (.lst (.cons (.tup (.cons (.cst (.str s_open)) (.cons (.call 0 (.cons (.var 8) (.cons (.cst (.int 1)) (.cons (.cst (.int 3)) .nil)))) .nil))) .nil)))) (.cons (.asg (.name 10) (.comp (.tup (.cons (.var 11) .nil)) (.tup (.cons (.name 11) (.cons (.name 12) .nil))) [11, 12] (.seq (.var 9)) (.some (.nt (.var 12))))) (.cons (.ret (.ite (.cmp .ne (.var 10) (.lst .nil)) (.idx (.var 10) (.cst (.int 0))) (.cst .none))) .nil))))))))⟩
def fd_need_rule : FD := ⟨1, 1, (.cons (.asg (.name 1) (.call 5 (.cons (.var 0) .nil))) (.cons (.cond (.cmp .notN (.var 1) (.cst .none)) (.cons (.rse "BadRule" (.var 1)) .nil) .nil) (.cons (.ret (.var 0)) .nil)))⟩
def fd_is_rule : FD := ⟨1, 0, (.cons (.ret (.cmp .isN (.call 5 (.cons (.var 0) .nil)) (.cst .none))) .nil)⟩
def fd_is_small_in : FD := ⟨1, 0, (.cons (.ret (.and (.cmp .le (.idx (.var 0) (.cst (.int 0))) (.cst (.int 4))) (.cmp .le (.bf .len (.cons (.idx (.var 0) (.cst (.int 1))) .nil)) (.cst (.int 4))))) .nil)⟩
def fd_is_small : FD := ⟨1, 0, (.cons (.ret (.and (.call 7 (.cons (.var 0) .nil)) (.call 8 (.cons (.var 0) .nil)))) .nil)⟩
def fd_need_small : FD := ⟨1, 0, (.cons (.cond (.nt (.call 8 (.cons (.var 0) .nil))) (.cons (.rse "TooMany" (.cst (.int 4))) .nil) .nil) .nil)⟩
def fd_is_of : FD := ⟨2, 0, (.cons (.ret (.and (.isi .tuple (.var 1)) (.and (.cmp .isin (.var 1) (.idx (.var 0) (.cst (.int 1)))) (.call 0 (.cons (.idx (.var 1) (.cst (.int 1))) (.cons (.cst (.int 0)) (.cons (.bin .sub (.idx (.var 0) (.cst (.int 0))) (.cst (.int 1))) .nil))))))) .nil)⟩
def fd_are_wants : FD := ⟨2, 1, (.cons (.cond (.or (.nt (.isi .tuple (.var 1))) (.nt (.bf .all (.cons (.comp (.call 11 (.cons (.var 0) (.cons (.var 2) .nil))) (.name 2) [2] (.seq (.var 1)) .none) .nil)))) (.cons (.ret (.cst (.bool false))) .nil) .nil) (.cons (.ret (.ite (.cmp .eq (.idx (.var 0) (.cst (.int 2))) (.cst (.str s_eldest))) (.call 3 (.cons (.bf .sorted (.cons (.var 1) .nil)) .nil)) (.call 3 (.cons (.var 1) .nil)))) .nil))⟩
def fd_state_fault : FD := ⟨2, 8, (.cons (.cond (.or (.nt (.isi .tuple (.var 1))) (.cmp .ne (.bf .len (.cons (.var 1) .nil)) (.cst (.int 4)))) (.cons (.ret (.tup .nil)) .nil) .nil) (.cons (.asg (.tup (.cons (.name 2) (.cons (.name 3) (.cons (.name 4) (.cons (.name 5) .nil))))) (.var 1)) (.cons (.asg (.name 6) (.lst (.cons (.tup (.cons (.cst (.str s_floor)) (.cons (.call 0 (.cons (.var 2) (.cons (.cst (.int 0)) (.cons (.bin .sub (.idx (.var 0) (.cst (.int 0))) (.cst (.int 1))) .nil)))) .nil))) (.cons (.tup (.cons (.cst (.str s_heading)) (.cons (.call 1 (.cons (.var 3) (.cons (.cst (.tuple [(.str s_up), (.str s_down), (.str s_none)])) .nil))) .nil))) .nil)))) (.cons (.asg (.name 6) (.bin .add (.var 6) (.lst (.cons (.tup (.cons (.cst (.str s_door)) (.cons (.call 0 (.cons (.var 4) (.cons (.cst (.int 0)) (.cons (.idx (.var 0) (.cst (.int 7))) .nil)))) .nil))) (.cons (.tup (.cons (.cst (.str s_wants)) (.cons (.call 12 (.cons (.var 0) (.cons (.var 5) .nil))) .nil))) .nil))))) (.cons (.asg (.name 7) (.comp (.tup (.cons (.var 8) .nil)) (.tup (.cons (.name 8) (.cons (.name 9) .nil))) [8, 9] (.seq (.var 6)) (.some (.nt (.var 9))))) (.cons (.ret (.ite (.cmp .ne (.var 7) (.lst .nil)) (.idx (.var 7) (.cst (.int 0))) (.cst .none))) .nil))))))⟩
def fd_need_state : FD := ⟨2, 1, (.cons (.drop (.call 6 (.cons (.var 0) .nil))) (.cons (.asg (.name 2) (.call 13 (.cons (.var 0) (.cons (.var 1) .nil)))) (.cons (.cond (.cmp .notN (.var 2) (.cst .none)) (.cons (.rse "BadState" (.var 2)) .nil) .nil) (.cons (.ret (.var 1)) .nil))))⟩
def fd_is_state : FD := ⟨2, 0, (.cons (.ret (.cmp .isN (.call 13 (.cons (.call 6 (.cons (.var 0) .nil)) (.cons (.var 1) .nil))) (.cst .none))) .nil)⟩
def fd_free_by : FD := ⟨4, 0, (.cons (.cond (.or (.cmp .eq (.idx (.var 3) (.cst (.int 0))) (.cst (.str s_in))) (.or (.cmp .eq (.idx (.var 0) (.cst (.int 3))) (.cst (.str s_all))) (.cmp .eq (.var 2) (.cst (.str s_none))))) (.cons (.ret (.cst (.bool true))) .nil) .nil) (.cons (.cond (.cmp .eq (.idx (.var 0) (.cst (.int 3))) (.cst (.str s_way))) (.cons (.ret (.cmp .isin (.idx (.var 3) (.cst (.int 0))) (.tup (.cons (.var 1) (.cons (.var 2) .nil))))) .nil) .nil) (.cons (.ret (.and (.cmp .eq (.idx (.var 0) (.cst (.int 3))) (.cst (.str s_end))) (.cmp .ne (.var 1) (.var 2)))) .nil)))⟩
def fd_need_button : FD := ⟨2, 0, (.cons (.cond (.nt (.call 11 (.cons (.var 0) (.cons (.var 1) .nil)))) (.cons (.rse "BadButton" (.var 1)) .nil) .nil) .nil)⟩
def fd_is_free : FD := ⟨3, 0, (.cons (.drop (.call 14 (.cons (.var 0) (.cons (.var 1) .nil)))) (.cons (.drop (.call 17 (.cons (.var 0) (.cons (.var 2) .nil)))) (.cons (.ret (.call 16 (.cons (.var 0) (.cons (.idx (.var 1) (.cst (.int 1))) (.cons (.idx (.var 1) (.cst (.int 1))) (.cons (.var 2) .nil)))))) .nil)))⟩
def fd_is_event_of : FD := ⟨2, 0, (.cons (.cond (.or (.nt (.isi .tuple (.var 1))) (.or (.cmp .notin (.bf .len (.cons (.var 1) .nil)) (.tup (.cons (.cst (.int 1)) (.cons (.cst (.int 2)) .nil)))) (.nt (.isi .str (.idx (.var 1) (.cst (.int 0))))))) (.cons (.ret (.cst (.bool false))) .nil) .nil) (.cons (.cond (.cmp .eq (.bf .len (.cons (.var 1) .nil)) (.cst (.int 1))) (.cons (.ret (.cmp .eq (.var 1) (.cst (.tuple [(.str s_step)])))) .nil) .nil) (.cons (.ret (.and (.cmp .eq (.idx (.var 1) (.cst (.int 0))) (.cst (.str s_press))) (.call 11 (.cons (.var 0) (.cons (.idx (.var 1) (.cst (.int 1))) .nil))))) .nil)))⟩
def fd_towards : FD := ⟨2, 0, (.cons (.cond (.cmp .eq (.var 1) (.var 0)) (.cons (.ret (.cst (.str s_none))) .nil) .nil) (.cons (.ret (.ite (.cmp .gt (.var 1) (.var 0)) (.cst (.str s_up)) (.cst (.str s_down)))) .nil))⟩
def fd_nearest_floor : FD := ⟨1, 8, (.cons (.asg (.tup (.cons (.name 1) (.cons (.name 2) (.cons (.name 3) (.cons (.name 4) .nil))))) (.var 0)) (.cons (.asg (.name 5) (.mk .nil)) (.cons (.loop (.tup (.cons (.name 6) (.cons (.name 7) .nil))) (.seq (.var 4)) (.cons (.asg (.name 8) (.ite (.cmp .ne (.var 2) (.cst (.str s_down))) (.cmp .lt (.var 7) (.var 1)) (.cmp .gt (.var 7) (.var 1)))) (.cons (.app (.var 5) (.tup (.cons (.bf .abs (.cons (.bin .sub (.var 7) (.var 1)) .nil)) (.cons (.var 8) (.cons (.var 7) .nil))))) .nil))) (.cons (.ret (.idx (.bf .min1 (.cons (.var 5) .nil)) (.cst (.int 2)))) .nil))))⟩
def fd_heading_in : FD := ⟨2, 8, (.cons (.asg (.tup (.cons (.name 2) (.cons (.name 3) (.cons (.name 4) (.cons (.name 5) .nil))))) (.var 1)) (.cons (.cond (.cmp .eq (.var 5) (.tup .nil)) (.cons (.ret (.cst (.str s_none))) .nil) .nil) (.cons (.cond (.cmp .eq (.idx (.var 0) (.cst (.int 2))) (.cst (.str s_nearest))) (.cons (.ret (.call 20 (.cons (.var 2) (.cons (.call 21 (.cons (.var 1) .nil)) .nil)))) .nil) .nil) (.cons (.cond (.cmp .eq (.idx (.var 0) (.cst (.int 2))) (.cst (.str s_eldest))) (.cons (.ret (.call 20 (.cons (.var 2) (.cons (.idx (.idx (.var 5) (.cst (.int 0))) (.cst (.int 1))) .nil)))) .nil) .nil) (.cons (.asg (.name 6) (.bf .any (.cons (.comp (.cmp .gt (.var 8) (.var 2)) (.tup (.cons (.name 7) (.cons (.name 8) .nil))) [7, 8] (.seq (.var 5)) .none) .nil))) (.cons (.asg (.name 9) (.bf .any (.cons (.comp (.cmp .lt (.var 8) (.var 2)) (.tup (.cons (.name 7) (.cons (.name 8) .nil))) [7, 8] (.seq (.var 5)) .none) .nil))) (.cons (.cond (.and (.var 6) (.nt (.and (.cmp .eq (.var 3) (.cst (.str s_down))) (.var 9)))) (.cons (.ret (.cst (.str s_up))) .nil) .nil) (.cons (.ret (.ite (.var 9) (.cst (.str s_down)) (.cst (.str s_none)))) .nil))))))))⟩
def fd_told_by : FD := ⟨2, 0, (.cons (.ret (.tup (.cons (.var 0) (.cons (.tup (.cons (.idx (.var 0) (.cst (.int 0))) (.cons (.bf .tuple (.cons (.bf .sorted (.cons (.var 1) .nil)) .nil)) .nil))) .nil)))) .nil)⟩
def fd_pressed : FD := ⟨3, 4, (.cons (.asg (.tup (.cons (.name 3) (.cons (.name 4) (.cons (.name 5) (.cons (.name 6) .nil))))) (.var 1)) (.cons (.cond (.cmp .isin (.var 2) (.var 6)) (.cons (.ret (.call 23 (.cons (.var 1) (.cons (.lst .nil) .nil)))) .nil) .nil) (.cons (.cond (.and (.cmp .gt (.var 5) (.cst (.int 0))) (.and (.cmp .eq (.idx (.var 2) (.cst (.int 1))) (.var 3)) (.call 16 (.cons (.var 0) (.cons (.var 4) (.cons (.var 4) (.cons (.var 2) .nil))))))) (.cons (.ret (.call 23 (.cons (.tup (.cons (.var 3) (.cons (.var 4) (.cons (.ite (.idx (.var 0) (.cst (.int 5))) (.idx (.var 0) (.cst (.int 7))) (.var 5)) (.cons (.var 6) .nil))))) (.cons (.lst (.cons (.var 2) .nil)) .nil)))) .nil) .nil) (.cons (.asg (.name 6) (.bin .add (.var 6) (.tup (.cons (.var 2) .nil)))) (.cons (.ret (.call 23 (.cons (.tup (.cons (.var 3) (.cons (.var 4) (.cons (.var 5) (.cons (.ite (.cmp .eq (.idx (.var 0) (.cst (.int 2))) (.cst (.str s_eldest))) (.var 6) (.bf .tuple (.cons (.bf .sorted (.cons (.var 6) .nil)) .nil))) .nil))))) (.cons (.lst .nil) .nil)))) .nil)))))⟩
def fd_closing : FD := ⟨2, 6, (.cons (.asg (.tup (.cons (.name 2) (.cons (.name 3) (.cons (.name 4) (.cons (.name 5) .nil))))) (.var 1)) (.cons (.cond (.and (.cmp .eq (.var 4) (.cst (.int 1))) (.and (.idx (.var 0) (.cst (.int 6))) (.bf .any (.cons (.comp (.cmp .ne (.var 7) (.var 2)) (.tup (.cons (.name 6) (.cons (.name 7) .nil))) [6, 7] (.seq (.var 5)) .none) .nil)))) (.cons (.asg (.name 3) (.call 22 (.cons (.var 0) (.cons (.var 1) .nil)))) (.cons (.asg (.name 2) (.bin .add (.var 2) (.tab "WAYS" tab_WAYS (.var 3)))) .nil)) .nil) (.cons (.ret (.tup (.cons (.var 2) (.cons (.var 3) (.cons (.bin .sub (.var 4) (.cst (.int 1))) (.cons (.var 5) .nil)))))) .nil)))⟩
def fd_stepped : FD := ⟨2, 8, (.cons (.asg (.tup (.cons (.name 2) (.cons (.name 3) (.cons (.name 4) (.cons (.name 5) .nil))))) (.var 1)) (.cons (.cond (.cmp .gt (.var 4) (.cst (.int 0))) (.cons (.ret (.call 23 (.cons (.call 25 (.cons (.var 0) (.cons (.var 1) .nil))) (.cons (.lst .nil) .nil)))) .nil) .nil) (.cons (.cond (.cmp .eq (.var 5) (.tup .nil)) (.cons (.asg (.name 6) (.and (.cmp .eq (.idx (.var 0) (.cst (.int 4))) (.cst (.str s_home))) (.cmp .gt (.var 2) (.cst (.int 0))))) (.cons (.ret (.call 23 (.cons (.ite (.var 6) (.tup (.cons (.bin .sub (.var 2) (.cst (.int 1))) (.cons (.cst (.str s_down)) (.cons (.cst (.int 0)) (.cons (.tup .nil) .nil))))) (.tup (.cons (.var 2) (.cons (.cst (.str s_none)) (.cons (.cst (.int 0)) (.cons (.tup .nil) .nil)))))) (.cons (.lst .nil) .nil)))) .nil)) .nil) (.cons (.asg (.name 7) (.call 22 (.cons (.var 0) (.cons (.var 1) .nil)))) (.cons (.asg (.name 8) (.comp (.var 9) (.name 9) [9] (.seq (.var 5)) (.some (.and (.cmp .eq (.idx (.var 9) (.cst (.int 1))) (.var 2)) (.call 16 (.cons (.var 0) (.cons (.var 3) (.cons (.var 7) (.cons (.var 9) .nil))))))))) (.cons (.cond (.cmp .ne (.var 8) (.lst .nil)) (.cons (.ret (.call 23 (.cons (.tup (.cons (.var 2) (.cons (.var 7) (.cons (.idx (.var 0) (.cst (.int 7))) (.cons (.bf .tuple (.cons (.comp (.var 9) (.name 9) [9] (.seq (.var 5)) (.some (.cmp .notin (.var 9) (.var 8)))) .nil)) .nil))))) (.cons (.var 8) .nil)))) .nil) .nil) (.cons (.ret (.call 23 (.cons (.tup (.cons (.bin .add (.var 2) (.tab "WAYS" tab_WAYS (.var 7))) (.cons (.var 7) (.cons (.cst (.int 0)) (.cons (.var 5) .nil))))) (.cons (.lst .nil) .nil)))) .nil)))))))⟩
def fd_done : FD := ⟨3, 0, (.cons (.ret (.ite (.cmp .eq (.var 2) (.cst (.tuple [(.str s_step)]))) (.call 26 (.cons (.var 0) (.cons (.var 1) .nil))) (.call 24 (.cons (.var 0) (.cons (.var 1) (.cons (.idx (.var 2) (.cst (.int 1))) .nil)))))) .nil)⟩
def fd_is_event : FD := ⟨2, 0, (.cons (.ret (.call 19 (.cons (.call 6 (.cons (.var 0) .nil)) (.cons (.var 1) .nil)))) .nil)⟩
def fd_heading : FD := ⟨2, 0, (.cons (.ret (.call 22 (.cons (.var 0) (.cons (.call 14 (.cons (.var 0) (.cons (.var 1) .nil))) .nil)))) .nil)⟩
def fd_step : FD := ⟨3, 0, (.cons (.drop (.call 14 (.cons (.var 0) (.cons (.var 1) .nil)))) (.cons (.cond (.nt (.call 19 (.cons (.var 0) (.cons (.var 2) .nil)))) (.cons (.rse "BadEvent" (.var 2)) .nil) .nil) (.cons (.ret (.call 27 (.cons (.var 0) (.cons (.var 1) (.cons (.var 2) .nil))))) .nil)))⟩
def fd_is_run : FD := ⟨2, 1, (.cons (.ret (.and (.isi .tuple (.var 1)) (.bf .all (.cons (.comp (.call 19 (.cons (.var 0) (.cons (.var 2) .nil))) (.name 2) [2] (.seq (.var 1)) .none) .nil)))) .nil)⟩
def fd_need_play : FD := ⟨2, 2, (.cons (.drop (.call 6 (.cons (.var 0) .nil))) (.cons (.cond (.or (.nt (.isi .tuple (.var 1))) (.cmp .gt (.bf .len (.cons (.var 1) .nil)) (.cst (.int 300)))) (.cons (.rse "BadPlay" (.tup .nil)) .nil) .nil) (.cons (.loop (.tup (.cons (.name 2) (.cons (.name 3) .nil))) (.enum (.var 1)) (.cons (.cond (.nt (.call 19 (.cons (.var 0) (.cons (.var 3) .nil)))) (.cons (.rse "BadPlay" (.tup (.cons (.var 2) .nil))) .nil) .nil) .nil)) (.cons (.ret (.var 1)) .nil))))⟩
def fd_is_play : FD := ⟨2, 0, (.cons (.ret (.and (.call 31 (.cons (.call 6 (.cons (.var 0) .nil)) (.cons (.var 1) .nil))) (.cmp .le (.bf .len (.cons (.var 1) .nil)) (.cst (.int 300))))) .nil)⟩
def fd_path_from : FD := ⟨3, 3, (.cons (.asg (.name 3) (.mk .nil)) (.cons (.loop (.name 4) (.seq (.var 2)) (.cons (.asg (.tup (.cons (.name 1) (.cons (.name 5) .nil))) (.call 27 (.cons (.var 0) (.cons (.var 1) (.cons (.var 4) .nil))))) (.cons (.app (.var 3) (.tup (.cons (.var 1) (.cons (.var 5) .nil)))) .nil))) (.cons (.ret (.frz (.var 3))) .nil)))⟩
def fd_trace_in : FD := ⟨2, 2, (.cons (.ret (.bf .tuple (.cons (.comp (.var 3) (.tup (.cons (.name 2) (.cons (.name 3) .nil))) [2, 3] (.seq (.call 34 (.cons (.var 0) (.cons (.cst (.tuple [(.int 0), (.str s_none), (.int 0), (.tuple [])])) (.cons (.var 1) .nil))))) .none) .nil))) .nil)⟩
def fd_last_in : FD := ⟨2, 1, (.cons (.asg (.name 2) (.call 34 (.cons (.var 0) (.cons (.cst (.tuple [(.int 0), (.str s_none), (.int 0), (.tuple [])])) (.cons (.var 1) .nil))))) (.cons (.ret (.ite (.cmp .ne (.var 2) (.lst .nil)) (.idx (.idx (.var 2) (.neg (.cst (.int 1)))) (.cst (.int 0))) (.cst (.tuple [(.int 0), (.str s_none), (.int 0), (.tuple [])])))) .nil))⟩
def fd_trace : FD := ⟨2, 0, (.cons (.ret (.call 35 (.cons (.var 0) (.cons (.call 32 (.cons (.var 0) (.cons (.var 1) .nil))) .nil)))) .nil)⟩
def fd_last_state : FD := ⟨2, 0, (.cons (.ret (.call 36 (.cons (.var 0) (.cons (.call 32 (.cons (.var 0) (.cons (.var 1) .nil))) .nil)))) .nil)⟩
def fd_journey_in : FD := ⟨2, 3, (.cons (.asg (.name 2) (.mk .nil)) (.cons (.asg (.tup (.cons (.name 3) (.cons (.name 4) .nil))) (.call 26 (.cons (.var 0) (.cons (.var 1) .nil)))) (.cons (.whl (.cmp .ne (.var 3) (.var 1)) (.cons (.app (.var 2) (.var 4)) (.cons (.asg (.name 1) (.var 3)) (.cons (.asg (.tup (.cons (.name 3) (.cons (.name 4) .nil))) (.call 26 (.cons (.var 0) (.cons (.var 1) .nil)))) .nil)))) (.cons (.ret (.frz (.var 2))) .nil))))⟩
def fd_rests : FD := ⟨2, 0, (.cons (.ret (.cmp .eq (.idx (.call 26 (.cons (.var 0) (.cons (.call 14 (.cons (.var 0) (.cons (.var 1) .nil))) .nil))) (.cst (.int 0))) (.var 1))) .nil)⟩
def fd_journey : FD := ⟨2, 0, (.cons (.ret (.bf .tuple (.cons (.call 39 (.cons (.var 0) (.cons (.call 14 (.cons (.var 0) (.cons (.var 1) .nil))) .nil))) .nil))) .nil)⟩
def fd_steps_left : FD := ⟨2, 0, (.cons (.ret (.bf .len (.cons (.call 39 (.cons (.var 0) (.cons (.call 14 (.cons (.var 0) (.cons (.var 1) .nil))) .nil))) .nil))) .nil)⟩
def fd_longest : FD := ⟨1, 1, (.cons (.drop (.call 6 (.cons (.var 0) .nil))) (.cons (.drop (.call 10 (.cons (.var 0) .nil))) (.cons (.ret (.bf .max1 (.cons (.comp (.bf .len (.cons (.call 39 (.cons (.var 0) (.cons (.var 1) .nil))) .nil)) (.name 1) [1] (.seq (.call 47 (.cons (.var 0) .nil))) .none) .nil))) .nil)))⟩
def fd_events_in : FD := ⟨1, 1, (.cons (.ret (.bin .add (.comp (.tup (.cons (.cst (.str s_press)) (.cons (.var 1) .nil))) (.name 1) [1] (.seq (.idx (.var 0) (.cst (.int 1)))) .none) (.lst (.cons (.cst (.tuple [(.str s_step)])) .nil)))) .nil)⟩
def fd_events_of : FD := ⟨1, 0, (.cons (.ret (.call 44 (.cons (.call 6 (.cons (.var 0) .nil)) .nil))) .nil)⟩
def fd_row_to : FD := ⟨2, 2, (.cons (.asg (.name 2) (.mk .nil)) (.cons (.whl (.cmp .notN (.idx (.var 0) (.var 1)) (.cst .none)) (.cons (.asg (.tup (.cons (.name 1) (.cons (.name 3) .nil))) (.idx (.var 0) (.var 1))) (.cons (.app (.var 2) (.var 3)) .nil))) (.cons (.ret (.bf .tuple (.cons (.rev (.var 2)) .nil))) .nil)))⟩
def fd_reached_in : FD := ⟨1, 6, (.cons (.par 1 2 (.tb1 (.cst (.tuple [(.int 0), (.str s_none), (.int 0), (.tuple [])])) (.cst .none)) (.lst (.cons (.cst (.tuple [(.int 0), (.str s_none), (.int 0), (.tuple [])])) .nil))) (.cons (.whl (.cmp .ne (.var 2) (.lst .nil)) (.cons (.asg (.name 3) (.mk .nil)) (.cons (.loop (.name 4) (.seq (.bf .list (.cons (.var 2) .nil))) (.cons (.loop (.name 5) (.seq (.call 44 (.cons (.var 0) .nil))) (.cons (.asg (.name 6) (.idx (.call 27 (.cons (.var 0) (.cons (.var 4) (.cons (.var 5) .nil)))) (.cst (.int 0)))) (.cons (.cond (.cmp .notin (.var 6) (.var 1)) (.cons (.put (.var 1) (.var 6) (.tup (.cons (.var 4) (.cons (.var 5) .nil)))) (.cons (.app (.var 3) (.var 6)) .nil)) .nil) .nil))) .nil)) (.cons (.asg (.name 2) (.var 3)) .nil)))) (.cons (.ret (.frz (.var 1))) .nil)))⟩
def fd_reached : FD := ⟨1, 0, (.cons (.drop (.call 6 (.cons (.var 0) .nil))) (.cons (.drop (.call 10 (.cons (.var 0) .nil))) (.cons (.ret (.bf .tuple (.cons (.bf .sorted (.cons (.lsd (.call 47 (.cons (.var 0) .nil))) .nil)) .nil))) .nil)))⟩
def fd_parting_from : FD := ⟨4, 8, (.cons (.par 4 5 (.tb1 (.tup (.cons (.var 1) (.cons (.var 3) .nil))) (.cst .none)) (.lst (.cons (.tup (.cons (.var 1) (.cons (.var 3) .nil))) .nil))) (.cons (.whl (.cmp .ne (.var 5) (.lst .nil)) (.cons (.asg (.name 6) (.mk .nil)) (.cons (.loop (.name 7) (.seq (.bf .list (.cons (.var 5) .nil))) (.cons (.loop (.name 8) (.seq (.call 44 (.cons (.var 0) .nil))) (.cons (.par 9 10 (.call 27 (.cons (.var 0) (.cons (.idx (.var 7) (.cst (.int 0))) (.cons (.var 8) .nil)))) (.call 27 (.cons (.var 2) (.cons (.idx (.var 7) (.cst (.int 1))) (.cons (.var 8) .nil))))) (.cons (.asg (.name 11) (.tup (.cons (.idx (.var 9) (.cst (.int 0))) (.cons (.idx (.var 10) (.cst (.int 0))) .nil)))) (.cons (.cond (.cmp .ne (.idx (.var 9) (.cst (.int 1))) (.idx (.var 10) (.cst (.int 1)))) (.cons (.ret (.bin .add (.call 46 (.cons (.var 4) (.cons (.var 7) .nil))) (.tup (.cons (.var 8) .nil)))) .nil) .nil) (.cons (.cond (.cmp .notin (.var 11) (.var 4)) (.cons (.put (.var 4) (.var 11) (.tup (.cons (.var 7) (.cons (.var 8) .nil)))) (.cons (.app (.var 6) (.var 11)) .nil)) .nil) .nil))))) .nil)) (.cons (.asg (.name 5) (.var 6)) .nil)))) (.cons (.ret (.cst .none)) .nil)))⟩
def fd_need_like : FD := ⟨1, 1, (.cons (.cond (.nt (.bf .all (.cons (.comp (.cmp .eq (.slc (.var 1) .none (.some (.cst (.int 2)))) (.slc (.idx (.var 0) (.cst (.int 0))) .none (.some (.cst (.int 2))))) (.name 1) [1] (.seq (.var 0)) .none) .nil))) (.cons (.rse "BadQuestion" (.cst (.str s_unlike_floors_or_buttons))) .nil) .nil) .nil)⟩
def fd_parting : FD := ⟨2, 0, (.cons (.drop (.call 6 (.cons (.var 0) .nil))) (.cons (.drop (.call 6 (.cons (.var 1) .nil))) (.cons (.drop (.call 10 (.cons (.var 0) .nil))) (.cons (.drop (.call 10 (.cons (.var 1) .nil))) (.cons (.drop (.call 50 (.cons (.tup (.cons (.var 0) (.cons (.var 1) .nil))) .nil))) (.cons (.ret (.call 49 (.cons (.var 0) (.cons (.cst (.tuple [(.int 0), (.str s_none), (.int 0), (.tuple [])])) (.cons (.var 1) (.cons (.cst (.tuple [(.int 0), (.str s_none), (.int 0), (.tuple [])])) .nil)))))) .nil))))))⟩
def fd_alike : FD := ⟨2, 0, (.cons (.ret (.cmp .isN (.call 51 (.cons (.var 0) (.cons (.var 1) .nil))) (.cst .none))) .nil)⟩
def fd_states_parting : FD := ⟨3, 0, (.cons (.drop (.call 6 (.cons (.var 0) .nil))) (.cons (.drop (.call 10 (.cons (.var 0) .nil))) (.cons (.drop (.call 14 (.cons (.var 0) (.cons (.var 1) .nil)))) (.cons (.drop (.call 14 (.cons (.var 0) (.cons (.var 2) .nil)))) (.cons (.ret (.call 49 (.cons (.var 0) (.cons (.var 1) (.cons (.var 0) (.cons (.var 2) .nil)))))) .nil)))))⟩
def fd_states_alike : FD := ⟨3, 0, (.cons (.ret (.cmp .isN (.call 53 (.cons (.var 0) (.cons (.var 1) (.cons (.var 2) .nil)))) (.cst .none))) .nil)⟩
def fd_numbered : FD := ⟨1, 3, (.cons .never .nil)⟩
def fd_kinds : FD := ⟨1, 9, (.cons .never .nil)⟩
def fd_need_asked : FD := ⟨3, 0, (.cons (.drop (.call 6 (.cons (.var 0) .nil))) (.cons (.drop (.call 10 (.cons (.var 0) .nil))) (.cons (.drop (.call 17 (.cons (.var 0) (.cons (.var 1) .nil)))) (.cons (.cond (.and (.nt (.call 1 (.cons (.var 2) (.cons (.tup (.cons (.cst (.str s_steps)) (.cons (.cst (.str s_away)) (.cons (.cst (.str s_passed)) .nil)))) .nil)))) (.or (.nt (.call 11 (.cons (.var 0) (.cons (.var 2) .nil)))) (.cmp .eq (.var 2) (.var 1)))) (.cons (.rse "BadMeasure" (.var 2)) .nil) .nil) .nil))))⟩
def fd_does_count : FD := ⟨6, 0, (.cons (.cond (.cmp .eq (.var 1) (.cst (.str s_steps))) (.cons (.ret (.cmp .eq (.var 3) (.cst (.tuple [(.str s_step)])))) .nil) .nil) (.cons (.cond (.cmp .eq (.var 1) (.cst (.str s_away))) (.cons (.ret (.cmp .gt (.bf .abs (.cons (.bin .sub (.idx (.var 4) (.cst (.int 0))) (.idx (.var 0) (.cst (.int 1)))) .nil)) (.bf .abs (.cons (.bin .sub (.idx (.var 2) (.cst (.int 0))) (.idx (.var 0) (.cst (.int 1)))) .nil)))) .nil) .nil) (.cons (.cond (.cmp .eq (.var 1) (.cst (.str s_passed))) (.cons (.ret (.and (.cmp .eq (.idx (.var 2) (.cst (.int 0))) (.idx (.var 0) (.cst (.int 1)))) (.cmp .ne (.idx (.var 4) (.cst (.int 0))) (.idx (.var 0) (.cst (.int 1)))))) .nil) .nil) (.cons (.ret (.and (.cmp .eq (.var 3) (.cst (.tuple [(.str s_step)]))) (.cmp .isin (.var 1) (.idx (.var 5) (.cst (.int 1)))))) .nil))))⟩
def fd_waiting_steps : FD := ⟨4, 4, (.cons (.asg (.name 4) (.mk .nil)) (.cons (.loop (.name 5) (.seq (.call 44 (.cons (.var 0) .nil))) (.cons (.asg (.tup (.cons (.name 6) (.cons (.name 7) .nil))) (.call 27 (.cons (.var 0) (.cons (.var 3) (.cons (.var 5) .nil))))) (.cons (.cond (.cmp .isin (.var 1) (.idx (.var 6) (.cst (.int 3)))) (.cons (.app (.var 4) (.tup (.cons (.var 5) (.cons (.var 6) (.cons (.call 58 (.cons (.var 1) (.cons (.var 2) (.cons (.var 3) (.cons (.var 5) (.cons (.var 6) (.cons (.var 7) .nil))))))) .nil))))) .nil) .nil) .nil))) (.cons (.ret (.frz (.var 4))) .nil)))⟩
def fd_web_of : FD := ⟨3, 1, (.cons .never .nil)⟩
def fd_ahead_of : FD := ⟨1, 5, (.cons .never .nil)⟩
def fd_ranks_of : FD := ⟨1, 12, (.cons .never .nil)⟩
def fd_way_back : FD := ⟨3, 7, (.cons (.par 3 4 (.tb1 (.var 1) (.cst .none)) (.lst (.cons (.var 1) .nil))) (.cons (.whl (.and (.cmp .ne (.var 4) (.lst .nil)) (.cmp .notin (.var 2) (.var 3))) (.cons (.asg (.name 5) (.mk .nil)) (.cons (.loop (.name 6) (.seq (.bf .list (.cons (.var 4) .nil))) (.cons (.loop (.tup (.cons (.name 7) (.cons (.name 8) (.cons (.name 9) .nil)))) (.seq (.idx (.var 0) (.var 6))) (.cons (.cond (.cmp .notin (.var 8) (.var 3)) (.cons (.put (.var 3) (.var 8) (.tup (.cons (.var 6) (.cons (.var 7) .nil)))) (.cons (.app (.var 5) (.var 8)) .nil)) .nil) .nil)) .nil)) (.cons (.asg (.name 4) (.var 5)) .nil)))) (.cons (.ret (.ite (.cmp .isin (.var 2) (.var 3)) (.call 46 (.cons (.var 3) (.cons (.var 2) .nil))) (.cst .none))) .nil)))⟩
def fd_ring_in : FD := ⟨1, 5, (.cons (.loop (.name 1) (.seq (.var 0)) (.cons (.loop (.tup (.cons (.name 2) (.cons (.name 3) (.cons (.name 4) .nil)))) (.seq (.idx (.var 0) (.var 1))) (.cons (.cond (.var 4) (.cons (.asg (.name 5) (.call 63 (.cons (.var 0) (.cons (.var 3) (.cons (.var 1) .nil))))) (.cons (.cond (.cmp .notN (.var 5) (.cst .none)) (.cons (.ret (.tup (.cons (.var 1) (.cons (.bin .add (.tup (.cons (.var 2) .nil)) (.var 5)) .nil)))) .nil) .nil) .nil)) .nil) .nil)) .nil)) (.cons (.ret (.cst .none)) .nil))⟩
def fd_to_next : FD := ⟨3, 7, (.cons (.par 3 4 (.tb1 (.var 2) (.cst .none)) (.lst (.cons (.var 2) .nil))) (.cons (.whl (.cst (.bool true)) (.cons (.asg (.name 5) (.mk .nil)) (.cons (.loop (.name 6) (.seq (.bf .list (.cons (.var 4) .nil))) (.cons (.loop (.tup (.cons (.name 7) (.cons (.name 8) (.cons (.name 9) .nil)))) (.seq (.idx (.var 0) (.var 6))) (.cons (.cond (.and (.var 9) (.cmp .eq (.bin .add (.idx (.var 1) (.var 8)) (.cst (.int 1))) (.idx (.var 1) (.var 2)))) (.cons (.ret (.tup (.cons (.bin .add (.call 46 (.cons (.var 3) (.cons (.var 6) .nil))) (.tup (.cons (.var 7) .nil))) (.cons (.var 8) .nil)))) .nil) .nil) (.cons (.cond (.and (.nt (.var 9)) (.and (.cmp .eq (.idx (.var 1) (.var 8)) (.idx (.var 1) (.var 2))) (.cmp .notin (.var 8) (.var 3)))) (.cons (.put (.var 3) (.var 8) (.tup (.cons (.var 6) (.cons (.var 7) .nil)))) (.cons (.app (.var 5) (.var 8)) .nil)) .nil) .nil))) .nil)) (.cons (.asg (.name 4) (.var 5)) .nil)))) .nil))⟩
def fd_waiting_way : FD := ⟨3, 2, (.cons .never .nil)⟩
def fd_wait_paper : FD := ⟨3, 7, (.cons .never .nil)⟩
def fd_wait : FD := ⟨3, 1, (.cons .never .nil)⟩
def fd_need_lead : FD := ⟨3, 1, (.cons (.cond (.nt (.call 31 (.cons (.var 0) (.cons (.var 2) .nil)))) (.cons (.rse "BadPaper" (.tup (.cons (.cst (.str s_lead)) .nil))) .nil) .nil) (.cons (.asg (.name 3) (.call 36 (.cons (.var 0) (.cons (.var 2) .nil)))) (.cons (.cond (.cmp .notin (.var 1) (.idx (.var 3) (.cst (.int 3)))) (.cons (.rse "BadPaper" (.tup (.cons (.cst (.str s_lead)) .nil))) .nil) .nil) (.cons (.ret (.var 3)) .nil))))⟩
def fd_check_ring : FD := ⟨5, 6, (.cons (.asg (.name 5) (.call 69 (.cons (.var 0) (.cons (.var 1) (.cons (.var 3) .nil))))) (.cons (.cond (.nt (.isi .tuple (.var 4))) (.cons (.rse "BadPaper" (.tup (.cons (.cst (.str s_ring)) .nil))) .nil) .nil) (.cons (.par 6 7 (.var 5) (.cst (.bool false))) (.cons (.loop (.name 8) (.seq (.var 4)) (.cons (.cond (.nt (.call 19 (.cons (.var 0) (.cons (.var 8) .nil)))) (.cons (.rse "BadPaper" (.tup (.cons (.cst (.str s_ring)) .nil))) .nil) .nil) (.cons (.asg (.tup (.cons (.name 9) (.cons (.name 10) .nil))) (.call 27 (.cons (.var 0) (.cons (.var 6) (.cons (.var 8) .nil))))) (.cons (.cond (.cmp .notin (.var 1) (.idx (.var 9) (.cst (.int 3)))) (.cons (.rse "BadPaper" (.tup (.cons (.cst (.str s_ring)) .nil))) .nil) .nil) (.cons (.asg (.name 7) (.or (.var 7) (.call 58 (.cons (.var 1) (.cons (.var 2) (.cons (.var 6) (.cons (.var 8) (.cons (.var 9) (.cons (.var 10) .nil))))))))) (.cons (.asg (.name 6) (.var 9)) .nil)))))) (.cons (.cond (.or (.cmp .ne (.var 6) (.var 5)) (.nt (.var 7))) (.cons (.rse "BadPaper" (.tup (.cons (.cst (.str s_ring)) .nil))) .nil) .nil) .nil)))))⟩
def fd_counted_at_end : FD := ⟨4, 5, (.cons .never .nil)⟩
def fd_does_fit : FD := ⟨5, 3, (.cons (.loop (.tup (.cons (.name 5) (.cons (.name 6) (.cons (.name 7) .nil)))) (.seq (.call 59 (.cons (.var 0) (.cons (.var 1) (.cons (.var 2) (.cons (.idx (.var 4) (.cst (.int 0))) .nil)))))) (.cons (.cond (.cmp .gt (.bin .add (.idx (.var 3) (.var 6)) (.bf .int (.cons (.var 7) .nil))) (.idx (.var 4) (.cst (.int 1)))) (.cons (.ret (.cst (.bool false))) .nil) .nil) .nil)) (.cons (.ret (.cst (.bool true))) .nil))⟩
def fd_check_ranks : FD := ⟨5, 6, (.cons .never .nil)⟩
def fd_check_wait : FD := ⟨4, 0, (.cons .never .nil)⟩
def fd_is_served : FD := ⟨1, 0, (.cons (.cond (.or (.nt (.isi .tuple (.var 0))) (.or (.cmp .ne (.bf .len (.cons (.var 0) .nil)) (.cst (.int 2))) (.nt (.call 1 (.cons (.idx (.var 0) (.cst (.int 0))) (.cons (.tup (.cons (.cst (.str s_in)) (.cons (.cst (.str s_up)) (.cons (.cst (.str s_down)) .nil)))) .nil)))))) (.cons (.ret (.cst (.bool false))) .nil) .nil) (.cons (.ret (.call 0 (.cons (.idx (.var 0) (.cst (.int 1))) (.cons (.cst (.int 0)) (.cons (.bin .sub (.cst (.int 6)) (.cst (.int 1))) .nil))))) .nil))⟩
def fd_is_told : FD := ⟨1, 1, (.cons (.cond (.or (.nt (.isi .tuple (.var 0))) (.or (.cmp .ne (.bf .len (.cons (.var 0) .nil)) (.cst (.int 2))) (.nt (.call 0 (.cons (.idx (.var 0) (.cst (.int 0))) (.cons (.cst (.int 0)) (.cons (.bin .sub (.cst (.int 6)) (.cst (.int 1))) .nil))))))) (.cons (.ret (.cst (.bool false))) .nil) .nil) (.cons (.cond (.or (.nt (.isi .tuple (.idx (.var 0) (.cst (.int 1))))) (.nt (.bf .all (.cons (.comp (.call 75 (.cons (.var 1) .nil)) (.name 1) [1] (.seq (.idx (.var 0) (.cst (.int 1)))) .none) .nil)))) (.cons (.ret (.cst (.bool false))) .nil) .nil) (.cons (.ret (.call 3 (.cons (.idx (.var 0) (.cst (.int 1))) .nil))) .nil)))⟩
def fd_need_log : FD := ⟨1, 2, (.cons (.cond (.or (.nt (.isi .tuple (.var 0))) (.cmp .gt (.bf .len (.cons (.var 0) .nil)) (.cst (.int 200)))) (.cons (.rse "BadLog" (.tup .nil)) .nil) .nil) (.cons (.loop (.tup (.cons (.name 1) (.cons (.name 2) .nil))) (.enum (.var 0)) (.cons (.cond (.nt (.call 76 (.cons (.var 2) .nil))) (.cons (.rse "BadLog" (.tup (.cons (.var 1) .nil))) .nil) .nil) .nil)) (.cons (.ret (.var 0)) .nil)))⟩
def fd_need_rules : FD := ⟨2, 1, (.cons (.cond (.or (.nt (.isi .tuple (.var 0))) (.nt (.chn .le .le (.cst (.int 1)) (.bf .len (.cons (.var 0) .nil)) (.var 1)))) (.cons (.rse "BadQuestion" (.cst (.str s_no_tuple_of_some_rules))) .nil) .nil) (.cons (.loop (.name 2) (.seq (.var 0)) (.cons (.drop (.call 6 (.cons (.var 2) .nil))) .nil)) .nil))⟩
def fd_fits : FD := ⟨3, 0, (.cons (.drop (.call 32 (.cons (.var 0) (.cons (.var 1) .nil)))) (.cons (.ret (.cmp .eq (.call 35 (.cons (.var 0) (.cons (.var 1) .nil))) (.call 77 (.cons (.var 2) .nil)))) .nil))⟩
def fd_rows_of : FD := ⟨2, 5, (.cons (.asg (.name 2) (.mk (.cons (.tup .nil) .nil))) (.cons (.loop (.tup (.cons (.name 3) (.cons (.name 4) .nil))) (.enum (.var 0)) (.cons (.asg (.name 5) (.ite (.var 1) (.bin .add (.slc (.var 0) .none (.some (.var 3))) (.slc (.var 0) (.some (.bin .add (.var 3) (.cst (.int 1)))) .none)) (.slc (.var 0) (.some (.bin .add (.var 3) (.cst (.int 1)))) .none))) (.cons (.ext (.var 2) (.comp (.bin .add (.tup (.cons (.var 4) .nil)) (.var 6)) (.name 6) [6] (.seq (.call 80 (.cons (.var 5) (.cons (.var 1) .nil)))) .none)) .nil))) (.cons (.ret (.frz (.var 2))) .nil)))⟩
def fd_does_load_fit : FD := ⟨3, 4, (.cons (.asg (.name 3) (.cst (.tuple [(.int 0), (.str s_none), (.int 0), (.tuple [])]))) (.cons (.loop (.name 4) (.seq (.var 1)) (.cons (.asg (.name 3) (.idx (.call 27 (.cons (.var 0) (.cons (.var 3) (.cons (.tup (.cons (.cst (.str s_press)) (.cons (.var 4) .nil))) .nil)))) (.cst (.int 0)))) .nil)) (.cons (.ret (.cmp .eq (.bf .tuple (.cons (.comp (.var 6) (.tup (.cons (.name 5) (.cons (.name 6) .nil))) [5, 6] (.seq (.call 34 (.cons (.var 0) (.cons (.var 3) (.cons (.bin .mul (.tup (.cons (.cst (.tuple [(.str s_step)])) .nil)) (.bf .len (.cons (.var 2) .nil))) .nil))))) .none) .nil)) (.var 2))) .nil)))⟩
def fd_loads_for : FD := ⟨2, 2, (.cons (.drop (.call 6 (.cons (.var 0) .nil))) (.cons (.drop (.call 77 (.cons (.var 1) .nil))) (.cons (.asg (.name 2) (.call 80 (.cons (.idx (.var 0) (.cst (.int 1))) (.cons (.cmp .eq (.idx (.var 0) (.cst (.int 2))) (.cst (.str s_eldest))) .nil)))) (.cons (.ret (.bf .tuple (.cons (.bf .sorted (.cons (.comp (.var 3) (.name 3) [3] (.seq (.var 2)) (.some (.call 81 (.cons (.var 0) (.cons (.var 3) (.cons (.var 1) .nil)))))) .nil)) .nil))) .nil))))⟩
def fd_rules_for : FD := ⟨3, 2, (.cons (.drop (.call 78 (.cons (.var 0) (.cons (.cst (.int 12)) .nil)))) (.cons (.drop (.call 50 (.cons (.var 0) .nil))) (.cons (.drop (.call 32 (.cons (.idx (.var 0) (.cst (.int 0))) (.cons (.var 1) .nil)))) (.cons (.drop (.call 77 (.cons (.var 2) .nil))) (.cons (.ret (.comp (.var 3) (.tup (.cons (.name 3) (.cons (.name 4) .nil))) [3, 4] (.enum (.var 0)) (.some (.cmp .eq (.call 35 (.cons (.var 4) (.cons (.var 1) .nil))) (.var 2))))) .nil)))))⟩
def fd_unlike_pairs : FD := ⟨1, 4, (.cons .never .nil)⟩
def fd_told_apart : FD := ⟨3, 3, (.cons (.ret (.bf .tuple (.cons (.comp (.or (.var 3) (.cmp .ne (.idx (.var 2) (.var 4)) (.idx (.var 2) (.var 5)))) (.tup (.cons (.name 3) (.cons (.tup (.cons (.name 4) (.cons (.name 5) .nil))) .nil))) [3, 4, 5] (.zip (.var 1) (.var 0)) .none) .nil))) .nil)⟩
def fd_telling_run : FD := ⟨1, 13, (.cons (.drop (.call 78 (.cons (.var 0) (.cons (.cst (.int 3)) .nil)))) (.cons (.loop (.name 1) (.seq (.var 0)) (.cons (.drop (.call 10 (.cons (.var 1) .nil))) .nil)) (.cons (.drop (.call 50 (.cons (.var 0) .nil))) (.cons (.asg (.name 2) (.call 84 (.cons (.var 0) .nil))) (.cons (.asg (.name 3) (.tup (.cons (.bin .mul (.tup (.cons (.cst (.tuple [(.int 0), (.str s_none), (.int 0), (.tuple [])])) .nil)) (.bf .len (.cons (.var 0) .nil))) (.cons (.bin .mul (.tup (.cons (.cst (.bool false)) .nil)) (.bf .len (.cons (.var 2) .nil))) .nil)))) (.cons (.par 4 5 (.tb1 (.var 3) (.cst .none)) (.lst (.cons (.var 3) .nil))) (.cons (.whl (.cmp .ne (.var 5) (.lst .nil)) (.cons (.asg (.name 6) (.mk .nil)) (.cons (.loop (.name 7) (.seq (.bf .list (.cons (.var 5) .nil))) (.cons (.cond (.bf .all (.cons (.idx (.var 7) (.cst (.int 1))) .nil)) (.cons (.ret (.call 46 (.cons (.var 4) (.cons (.var 7) .nil)))) .nil) .nil) (.cons (.loop (.name 8) (.seq (.call 44 (.cons (.idx (.var 0) (.cst (.int 0))) .nil))) (.cons (.asg (.name 9) (.comp (.call 27 (.cons (.var 1) (.cons (.var 10) (.cons (.var 8) .nil)))) (.tup (.cons (.name 1) (.cons (.name 10) .nil))) [1, 10] (.zip (.var 0) (.idx (.var 7) (.cst (.int 0)))) .none)) (.cons (.asg (.name 11) (.call 85 (.cons (.var 2) (.cons (.idx (.var 7) (.cst (.int 1))) (.cons (.comp (.var 12) (.tup (.cons (.name 10) (.cons (.name 12) .nil))) [10, 12] (.seq (.var 9)) .none) .nil))))) (.cons (.asg (.name 13) (.tup (.cons (.bf .tuple (.cons (.comp (.var 10) (.tup (.cons (.name 10) (.cons (.name 12) .nil))) [10, 12] (.seq (.var 9)) .none) .nil)) (.cons (.var 11) .nil)))) (.cons (.cond (.cmp .notin (.var 13) (.var 4)) (.cons (.put (.var 4) (.var 13) (.tup (.cons (.var 7) (.cons (.var 8) .nil)))) (.cons (.app (.var 6) (.var 13)) .nil)) .nil) .nil))))) .nil))) (.cons (.asg (.name 5) (.var 6)) .nil)))) (.cons (.ret (.cst .none)) .nil))))))))⟩
def fd_under : FD := ⟨2, 1, (.cons .never .nil)⟩
def fd_button_text : FD := ⟨1, 0, (.cons .never .nil)⟩
def fd_buttons_text : FD := ⟨1, 1, (.cons .never .nil)⟩
def fd_rule_text : FD := ⟨1, 8, (.cons .never .nil)⟩
def fd_is_written : FD := ⟨1, 0, (.cons (.cond (.or (.nt (.isi .tuple (.var 0))) (.or (.cmp .notin (.bf .len (.cons (.var 0) .nil)) (.tup (.cons (.cst (.int 1)) (.cons (.cst (.int 2)) .nil)))) (.nt (.isi .str (.idx (.var 0) (.cst (.int 0))))))) (.cons (.ret (.cst (.bool false))) .nil) .nil) (.cons (.ret (.or (.cmp .eq (.var 0) (.cst (.tuple [(.str s_step)]))) (.and (.cmp .eq (.bf .len (.cons (.var 0) .nil)) (.cst (.int 2))) (.and (.cmp .eq (.idx (.var 0) (.cst (.int 0))) (.cst (.str s_press))) (.call 2 (.cons (.cst (.int 6)) (.cons (.idx (.var 0) (.cst (.int 1))) .nil))))))) .nil))⟩
def fd_event_text : FD := ⟨1, 0, (.cons (.ret (.ite (.cmp .eq (.var 0) (.cst (.tuple [(.str s_step)]))) (.cst (.str s__)) (.call 88 (.cons (.idx (.var 0) (.cst (.int 1))) .nil)))) .nil)⟩
def fd_play_text : FD := ⟨1, 1, (.cons .never .nil)⟩
def fd_floors_of : FD := ⟨2, 1, (.cons (.asg (.name 2) (.ite (.and (.var 1) (.cmp .eq (.var 0) (.cst (.str s_d)))) (.cst (.int 1)) (.cst (.int 0)))) (.cons (.ret (.bf .list (.cons (.slc (.cst (.str s_0123456789)) (.some (.var 2)) (.some (.bin .sub (.cst (.int 6)) (.bf .int (.cons (.and (.var 1) (.cmp .eq (.var 0) (.cst (.str s_u)))) .nil))))) .nil))) .nil))⟩
def fd_read_button : FD := ⟨2, 1, (.cons .never .nil)⟩
def fd_read_buttons : FD := ⟨1, 1, (.cons .never .nil)⟩
def fd_read_rule : FD := ⟨1, 10, (.cons .never .nil)⟩
def fd_read_event : FD := ⟨1, 0, (.cons .never .nil)⟩
def fd_read_play : FD := ⟨1, 2, (.cons .never .nil)⟩
def fd_number_in : FD := ⟨1, 1, (.cons (.cond (.or (.nt (.chn .le .le (.cst (.int 1)) (.bf .len (.cons (.var 0) .nil)) (.cst (.int 3)))) (.nt (.bf .all (.cons (.comp (.cmp .isin (.var 1) (.cst (.str s_0123456789))) (.name 1) [1] (.seq (.var 0)) .none) .nil)))) (.cons (.ret (.neg (.cst (.int 1)))) .nil) .nil) (.cons (.ret (.ite (.or (.cmp .eq (.var 0) (.cst (.str s_0))) (.cmp .ne (.idx (.var 0) (.cst (.int 0))) (.cst (.str s_0)))) (.bf .int (.cons (.var 0) .nil)) (.neg (.cst (.int 1))))) .nil))⟩
def fd_button_in : FD := ⟨1, 2, (.cons .never .nil)⟩
def fd_measure_in : FD := ⟨1, 0, (.cons (.ret (.ite (.cmp .isin (.var 0) (.tup (.cons (.cst (.str s_steps)) (.cons (.cst (.str s_away)) (.cons (.cst (.str s_passed)) .nil))))) (.var 0) (.call 101 (.cons (.var 0) .nil)))) .nil)⟩
def fd_told_text : FD := ⟨1, 0, (.cons .never .nil)⟩
def fd_tellings_text : FD := ⟨1, 1, (.cons .never .nil)⟩
def fd_law_begun : FD := ⟨1, 2, (.cons (.asg (.name 1) (.cst (.int 11))) (.cons (.loop (.name 2) (.seq (.var 0)) (.cons (.asg (.name 1) (.bin .mod (.bf .int (.cons (.bin .add (.bin .add (.bin .mul (.var 1) (.cst (.int 69621))) (.bin .mod (.bf .int (.cons (.var 2) .nil)) (.cst (.int 2147483629)))) (.cst (.int 7))) .nil)) (.cst (.int 2147483647)))) .nil)) (.cons (.ret (.dsp [s_great, s_seed, s_turns] (.cons (.comp (.var 2) (.name 2) [2] (.seq (.var 0)) (.some (.cmp .ge (.var 2) (.bin .pow (.cst (.int 10)) (.cst (.int 18)))))) (.cons (.var 1) (.cons (.cst (.int 0)) .nil))))) .nil)))⟩
def fd_law_draw : FD := ⟨2, 2, (.cons (.whl (.and (.cmp .ne (.idx (.var 0) (.cst (.str s_great))) (.lst .nil)) (.cmp .eq (.idx (.idx (.var 0) (.cst (.str s_great))) (.cst (.int 0))) (.cst (.int 0)))) (.cons (.put (.var 0) (.cst (.str s_great)) (.slc (.idx (.var 0) (.cst (.str s_great))) (.some (.cst (.int 1))) .none)) .nil)) (.cons (.cond (.cmp .ne (.idx (.var 0) (.cst (.str s_great))) (.lst .nil)) (.cons (.asg (.name 2) (.idx (.idx (.var 0) (.cst (.str s_great))) (.cst (.int 0)))) (.cons (.put (.var 0) (.cst (.str s_great)) (.bin .add (.lst (.cons (.bin .fdiv (.var 2) (.var 1)) .nil)) (.slc (.idx (.var 0) (.cst (.str s_great))) (.some (.cst (.int 1))) .none))) (.cons (.ret (.bin .mod (.bf .int (.cons (.var 2) .nil)) (.var 1))) .nil))) .nil) (.cons (.put (.var 0) (.cst (.str s_turns)) (.bin .add (.idx (.var 0) (.cst (.str s_turns))) (.cst (.int 1)))) (.cons (.asg (.name 3) (.bin .mod (.bf .int (.cons (.bin .add (.bin .add (.bin .mul (.idx (.var 0) (.cst (.str s_seed))) (.cst (.int 48271))) (.bin .mul (.bin .mul (.idx (.var 0) (.cst (.str s_turns))) (.idx (.var 0) (.cst (.str s_turns)))) (.cst (.int 16807)))) (.idx (.var 0) (.cst (.str s_turns)))) .nil)) (.cst (.int 2147483647)))) (.cons (.asg (.name 3) (.bin .mod (.bf .int (.cons (.bin .add (.bin .mul (.var 3) (.cst (.int 69621))) (.cst (.int 12345))) .nil)) (.cst (.int 2147483629)))) (.cons (.ret (.bin .mod (.bin .fdiv (.bin .mod (.bf .int (.cons (.bin .add (.bin .mul (.var 3) (.cst (.int 40014))) (.idx (.var 0) (.cst (.str s_turns)))) .nil)) (.cst (.int 2147483563))) (.cst (.int 64))) (.var 1))) .nil))))))⟩
def fd_law_of : FD := ⟨2, 0, (.cons (.ret (.idx (.var 1) (.call 106 (.cons (.var 0) (.cons (.bf .len (.cons (.var 1) .nil)) .nil))))) .nil)⟩
def fd_law_buttons : FD := ⟨3, 3, (.cons (.asg (.name 3) (.bin .add (.comp (.tup (.cons (.cst (.str s_in)) (.cons (.var 4) .nil))) (.name 4) [4] (.rng1 (.var 1)) .none) (.comp (.tup (.cons (.cst (.str s_up)) (.cons (.var 4) .nil))) (.name 4) [4] (.rng1 (.bin .sub (.var 1) (.cst (.int 1)))) .none))) (.cons (.par 3 5 (.bfm .sorted (.cons (.bin .add (.var 3) (.comp (.tup (.cons (.cst (.str s_down)) (.cons (.var 4) .nil))) (.name 4) [4] (.rng2 (.cst (.int 1)) (.var 1)) .none)) .nil)) (.mk .nil)) (.cons (.loop (.name 4) (.rng1 (.bin .add (.cst (.int 1)) (.call 106 (.cons (.var 0) (.cons (.bf .min2 (.cons (.var 2) (.cons (.bf .len (.cons (.var 3) .nil)) .nil))) .nil))))) (.cons (.app (.var 5) (.pop1 (.var 3) (.call 106 (.cons (.var 0) (.cons (.bf .len (.cons (.var 3) .nil)) .nil))))) .nil)) (.cons (.ret (.bf .tuple (.cons (.bf .sorted (.cons (.var 5) .nil)) .nil))) .nil))))⟩
def fd_law_rule : FD := ⟨3, 4, (.cons (.asg (.name 3) (.bin .add (.cst (.int 2)) (.call 106 (.cons (.var 0) (.cons (.bin .sub (.var 1) (.cst (.int 1))) .nil))))) (.cons (.par 4 5 (.call 108 (.cons (.var 0) (.cons (.var 3) (.cons (.var 2) .nil)))) (.call 107 (.cons (.var 0) (.cons (.lst (.cons (.cst (.str s_sweep)) (.cons (.cst (.str s_nearest)) (.cons (.cst (.str s_eldest)) .nil)))) .nil)))) (.cons (.asg (.name 6) (.tup (.cons (.call 107 (.cons (.var 0) (.cons (.lst (.cons (.cst (.str s_stay)) (.cons (.cst (.str s_home)) .nil))) .nil))) (.cons (.cmp .eq (.call 106 (.cons (.var 0) (.cons (.cst (.int 2)) .nil))) (.cst (.int 0))) (.cons (.cmp .eq (.call 106 (.cons (.var 0) (.cons (.cst (.int 2)) .nil))) (.cst (.int 0))) (.cons (.bin .add (.cst (.int 1)) (.call 106 (.cons (.var 0) (.cons (.cst (.int 3)) .nil)))) .nil)))))) (.cons (.ret (.bin .add (.tup (.cons (.var 3) (.cons (.var 4) (.cons (.var 5) (.cons (.call 107 (.cons (.var 0) (.cons (.lst (.cons (.cst (.str s_all)) (.cons (.cst (.str s_way)) (.cons (.cst (.str s_end)) .nil)))) .nil))) .nil))))) (.var 6))) .nil))))⟩
def fd_law_said : FD := ⟨1, 3, (.cons .never .nil)⟩
def fd_law_state : FD := ⟨2, 3, (.cons (.par 2 3 (.bfm .list (.cons (.idx (.var 1) (.cst (.int 1))) .nil)) (.mk .nil)) (.cons (.loop (.name 4) (.rng1 (.call 106 (.cons (.var 0) (.cons (.bin .add (.bf .len (.cons (.var 2) .nil)) (.cst (.int 1))) .nil)))) (.cons (.app (.var 3) (.pop1 (.var 2) (.call 106 (.cons (.var 0) (.cons (.bf .len (.cons (.var 2) .nil)) .nil))))) .nil)) (.cons (.asg (.name 3) (.ite (.cmp .eq (.idx (.var 1) (.cst (.int 2))) (.cst (.str s_eldest))) (.bf .tuple (.cons (.var 3) .nil)) (.bf .tuple (.cons (.bf .sorted (.cons (.var 3) .nil)) .nil)))) (.cons (.ret (.tup (.cons (.call 106 (.cons (.var 0) (.cons (.idx (.var 1) (.cst (.int 0))) .nil))) (.cons (.call 107 (.cons (.var 0) (.cons (.lst (.cons (.cst (.str s_up)) (.cons (.cst (.str s_down)) (.cons (.cst (.str s_none)) .nil)))) .nil))) (.cons (.call 106 (.cons (.var 0) (.cons (.bin .add (.idx (.var 1) (.cst (.int 7))) (.cst (.int 1))) .nil))) (.cons (.var 3) .nil)))))) .nil))))⟩
def fd_law_led : FD := ⟨2, 10, (.cons (.asg (.tup (.cons (.name 2) (.cons (.name 3) (.cons (.name 4) (.cons (.name 5) .nil))))) (.var 1)) (.cons (.asg (.name 6) (.comp (.var 8) (.tup (.cons (.name 7) (.cons (.name 8) .nil))) [7, 8] (.seq (.var 5)) .none)) (.cons (.cond (.cmp .eq (.var 6) (.lst .nil)) (.cons (.ret (.cst (.str s_none))) .nil) .nil) (.cons (.asg (.name 8) (.bf .min1 (.cons (.var 6) .nil))) (.cons (.cond (.cmp .eq (.idx (.var 0) (.cst (.int 2))) (.cst (.str s_eldest))) (.cons (.asg (.name 8) (.idx (.var 6) (.cst (.int 0)))) .nil) (.cons (.cond (.cmp .eq (.idx (.var 0) (.cst (.int 2))) (.cst (.str s_nearest))) (.cons (.asg (.name 9) (.bf .min1 (.cons (.comp (.bf .abs (.cons (.bin .sub (.var 10) (.var 2)) .nil)) (.name 10) [10] (.seq (.var 6)) .none) .nil))) (.cons (.asg (.name 11) (.comp (.var 10) (.name 10) [10] (.seq (.var 6)) (.some (.cmp .eq (.bf .abs (.cons (.bin .sub (.var 10) (.var 2)) .nil)) (.var 9))))) (.cons (.asg (.name 8) (.ite (.cmp .eq (.var 3) (.cst (.str s_down))) (.bf .min1 (.cons (.var 11) .nil)) (.bf .max1 (.cons (.var 11) .nil)))) .nil))) (.cons (.cond (.and (.cmp .gt (.bf .max1 (.cons (.var 6) .nil)) (.var 2)) (.nt (.and (.cmp .eq (.var 3) (.cst (.str s_down))) (.cmp .lt (.bf .min1 (.cons (.var 6) .nil)) (.var 2))))) (.cons (.asg (.name 8) (.bf .max1 (.cons (.var 6) .nil))) .nil) .nil) .nil)) .nil)) (.cons (.ret (.ite (.cmp .eq (.var 8) (.var 2)) (.cst (.str s_none)) (.idx (.lst (.cons (.cst (.str s_down)) (.cons (.cst (.str s_up)) .nil))) (.bf .int (.cons (.cmp .gt (.var 8) (.var 2)) .nil))))) .nil))))))⟩
def fd_law_is_free : FD := ⟨4, 0, (.cons (.cond (.or (.cmp .eq (.idx (.var 3) (.cst (.int 0))) (.cst (.str s_in))) (.or (.cmp .eq (.idx (.var 0) (.cst (.int 3))) (.cst (.str s_all))) (.cmp .eq (.var 2) (.cst (.str s_none))))) (.cons (.ret (.cst (.bool true))) .nil) .nil) (.cons (.ret (.ite (.cmp .eq (.idx (.var 0) (.cst (.int 3))) (.cst (.str s_way))) (.cmp .isin (.idx (.var 3) (.cst (.int 0))) (.tup (.cons (.var 1) (.cons (.var 2) .nil)))) (.cmp .ne (.var 1) (.var 2)))) .nil))⟩
def fd_law_step : FD := ⟨2, 11, (.cons (.asg (.tup (.cons (.name 2) (.cons (.name 3) (.cons (.name 4) (.cons (.name 5) .nil))))) (.var 1)) (.cons (.asg (.name 6) (.dsp [s_up, s_down, s_none] (.cons (.cst (.int 1)) (.cons (.neg (.cst (.int 1))) (.cons (.cst (.int 0)) .nil))))) (.cons (.cond (.cmp .gt (.var 4) (.cst (.int 0))) (.cons (.cond (.and (.cmp .eq (.var 4) (.cst (.int 1))) (.and (.idx (.var 0) (.cst (.int 6))) (.cmp .ne (.comp (.var 8) (.tup (.cons (.name 7) (.cons (.name 8) .nil))) [7, 8] (.seq (.var 5)) (.some (.cmp .ne (.var 8) (.var 2)))) (.lst .nil)))) (.cons (.asg (.name 3) (.call 112 (.cons (.var 0) (.cons (.var 1) .nil)))) (.cons (.asg (.name 2) (.bin .add (.var 2) (.idx (.var 6) (.var 3)))) .nil)) .nil) (.cons (.ret (.tup (.cons (.tup (.cons (.var 2) (.cons (.var 3) (.cons (.bin .sub (.var 4) (.cst (.int 1))) (.cons (.var 5) .nil))))) (.cons (.tup (.cons (.var 2) (.cons (.tup .nil) .nil))) .nil)))) .nil)) .nil) (.cons (.cond (.cmp .eq (.var 5) (.tup .nil)) (.cons (.cond (.and (.cmp .eq (.idx (.var 0) (.cst (.int 4))) (.cst (.str s_home))) (.cmp .gt (.var 2) (.cst (.int 0)))) (.cons (.ret (.tup (.cons (.tup (.cons (.bin .sub (.var 2) (.cst (.int 1))) (.cons (.cst (.str s_down)) (.cons (.cst (.int 0)) (.cons (.tup .nil) .nil))))) (.cons (.tup (.cons (.bin .sub (.var 2) (.cst (.int 1))) (.cons (.tup .nil) .nil))) .nil)))) .nil) .nil) (.cons (.ret (.tup (.cons (.tup (.cons (.var 2) (.cons (.cst (.str s_none)) (.cons (.cst (.int 0)) (.cons (.tup .nil) .nil))))) (.cons (.tup (.cons (.var 2) (.cons (.tup .nil) .nil))) .nil)))) .nil)) .nil) (.cons (.asg (.name 9) (.call 112 (.cons (.var 0) (.cons (.var 1) .nil)))) (.cons (.asg (.name 10) (.comp (.var 11) (.name 11) [11] (.seq (.var 5)) (.some (.and (.cmp .eq (.idx (.var 11) (.cst (.int 1))) (.var 2)) (.call 113 (.cons (.var 0) (.cons (.var 3) (.cons (.var 9) (.cons (.var 11) .nil))))))))) (.cons (.cond (.cmp .eq (.var 10) (.lst .nil)) (.cons (.ret (.tup (.cons (.tup (.cons (.bin .add (.var 2) (.idx (.var 6) (.var 9))) (.cons (.var 9) (.cons (.cst (.int 0)) (.cons (.var 5) .nil))))) (.cons (.tup (.cons (.bin .add (.var 2) (.idx (.var 6) (.var 9))) (.cons (.tup .nil) .nil))) .nil)))) .nil) .nil) (.cons (.asg (.name 12) (.bf .tuple (.cons (.comp (.var 11) (.name 11) [11] (.seq (.var 5)) (.some (.cmp .notin (.var 11) (.var 10)))) .nil))) (.cons (.ret (.tup (.cons (.tup (.cons (.var 2) (.cons (.var 9) (.cons (.idx (.var 0) (.cst (.int 7))) (.cons (.var 12) .nil))))) (.cons (.tup (.cons (.var 2) (.cons (.bf .tuple (.cons (.bf .sorted (.cons (.var 10) .nil)) .nil)) .nil))) .nil)))) .nil)))))))))⟩
def fd_law_done : FD := ⟨3, 5, (.cons (.cond (.cmp .eq (.var 2) (.tup (.cons (.cst (.str s_step)) .nil))) (.cons (.ret (.call 114 (.cons (.var 0) (.cons (.var 1) .nil)))) .nil) .nil) (.cons (.asg (.tup (.cons (.name 3) (.cons (.name 4) (.cons (.name 5) (.cons (.name 6) .nil))))) (.var 1)) (.cons (.cond (.cmp .isin (.idx (.var 2) (.cst (.int 1))) (.var 6)) (.cons (.ret (.tup (.cons (.var 1) (.cons (.tup (.cons (.var 3) (.cons (.tup .nil) .nil))) .nil)))) .nil) .nil) (.cons (.cond (.and (.cmp .gt (.var 5) (.cst (.int 0))) (.and (.cmp .eq (.idx (.idx (.var 2) (.cst (.int 1))) (.cst (.int 1))) (.var 3)) (.call 113 (.cons (.var 0) (.cons (.var 4) (.cons (.var 4) (.cons (.idx (.var 2) (.cst (.int 1))) .nil))))))) (.cons (.ret (.tup (.cons (.tup (.cons (.var 3) (.cons (.var 4) (.cons (.ite (.idx (.var 0) (.cst (.int 5))) (.idx (.var 0) (.cst (.int 7))) (.var 5)) (.cons (.var 6) .nil))))) (.cons (.tup (.cons (.var 3) (.cons (.tup (.cons (.idx (.var 2) (.cst (.int 1))) .nil)) .nil))) .nil)))) .nil) .nil) (.cons (.asg (.name 7) (.bin .add (.var 6) (.tup (.cons (.idx (.var 2) (.cst (.int 1))) .nil)))) (.cons (.ret (.tup (.cons (.tup (.cons (.var 3) (.cons (.var 4) (.cons (.var 5) (.cons (.ite (.cmp .eq (.idx (.var 0) (.cst (.int 2))) (.cst (.str s_eldest))) (.var 7) (.bf .tuple (.cons (.bf .sorted (.cons (.var 7) .nil)) .nil))) .nil))))) (.cons (.tup (.cons (.var 3) (.cons (.tup .nil) .nil))) .nil)))) .nil))))))⟩
def fd_law_events : FD := ⟨1, 1, (.cons (.ret (.bin .add (.comp (.tup (.cons (.cst (.str s_press)) (.cons (.var 1) .nil))) (.name 1) [1] (.seq (.idx (.var 0) (.cst (.int 1)))) .none) (.lst (.cons (.tup (.cons (.cst (.str s_step)) .nil)) .nil)))) .nil)⟩
def fd_law_play : FD := ⟨3, 2, (.cons (.asg (.name 3) (.mk .nil)) (.cons (.loop (.name 4) (.rng1 (.var 2)) (.cons (.app (.var 3) (.ite (.cmp .gt (.call 106 (.cons (.var 0) (.cons (.cst (.int 5)) .nil))) (.cst (.int 1))) (.tup (.cons (.cst (.str s_step)) .nil)) (.tup (.cons (.cst (.str s_press)) (.cons (.call 107 (.cons (.var 0) (.cons (.idx (.var 1) (.cst (.int 1))) .nil))) .nil))))) .nil)) (.cons (.ret (.bf .tuple (.cons (.var 3) .nil))) .nil)))⟩
def fd_law_path : FD := ⟨3, 3, (.cons (.asg (.name 3) (.mk .nil)) (.cons (.loop (.name 4) (.seq (.var 2)) (.cons (.asg (.tup (.cons (.name 1) (.cons (.name 5) .nil))) (.call 115 (.cons (.var 0) (.cons (.var 1) (.cons (.var 4) .nil))))) (.cons (.app (.var 3) (.tup (.cons (.var 1) (.cons (.var 5) .nil)))) .nil))) (.cons (.ret (.frz (.var 3))) .nil)))⟩
def fd_law_met : FD := ⟨1, 7, (.cons (.par 1 2 (.lst (.cons (.tup (.cons (.cst (.int 0)) (.cons (.cst (.str s_none)) (.cons (.cst (.int 0)) (.cons (.tup .nil) .nil))))) .nil)) (.cst (.int 0))) (.cons (.asg (.name 3) (.tb1 (.idx (.var 1) (.cst (.int 0))) (.cst (.int 0)))) (.cons (.whl (.cmp .ne (.var 1) (.lst .nil)) (.cons (.par 4 2 (.mk .nil) (.bin .add (.var 2) (.cst (.int 1)))) (.cons (.loop (.name 5) (.seq (.bf .list (.cons (.var 1) .nil))) (.cons (.loop (.name 6) (.seq (.call 116 (.cons (.var 0) .nil))) (.cons (.asg (.name 7) (.idx (.call 115 (.cons (.var 0) (.cons (.var 5) (.cons (.var 6) .nil)))) (.cst (.int 0)))) (.cons (.cond (.cmp .notin (.var 7) (.var 3)) (.cons (.put (.var 3) (.var 7) (.var 2)) (.cons (.app (.var 4) (.var 7)) .nil)) .nil) .nil))) .nil)) (.cons (.asg (.name 1) (.var 4)) .nil)))) (.cons (.ret (.frz (.var 3))) .nil))))⟩
def fd_law_left : FD := ⟨2, 2, (.cons (.par 2 3 (.cst (.int 0)) (.idx (.call 114 (.cons (.var 0) (.cons (.var 1) .nil))) (.cst (.int 0)))) (.cons (.whl (.cmp .ne (.var 3) (.var 1)) (.cons (.par 2 1 (.bin .add (.var 2) (.cst (.int 1))) (.var 3)) (.cons (.asg (.name 3) (.idx (.call 114 (.cons (.var 0) (.cons (.var 1) .nil))) (.cst (.int 0)))) .nil))) (.cons (.ret (.var 2)) .nil)))⟩
def fd_law_counts : FD := ⟨5, 0, (.cons (.cond (.cmp .eq (.var 1) (.cst (.str s_steps))) (.cons (.ret (.cmp .eq (.var 3) (.tup (.cons (.cst (.str s_step)) .nil)))) .nil) .nil) (.cons (.cond (.cmp .eq (.var 1) (.cst (.str s_away))) (.cons (.ret (.cmp .gt (.bf .abs (.cons (.bin .sub (.idx (.idx (.var 4) (.cst (.int 0))) (.cst (.int 0))) (.idx (.var 0) (.cst (.int 1)))) .nil)) (.bf .abs (.cons (.bin .sub (.idx (.var 2) (.cst (.int 0))) (.idx (.var 0) (.cst (.int 1)))) .nil)))) .nil) .nil) (.cons (.cond (.cmp .eq (.var 1) (.cst (.str s_passed))) (.cons (.ret (.and (.cmp .eq (.idx (.var 2) (.cst (.int 0))) (.idx (.var 0) (.cst (.int 1)))) (.cmp .ne (.idx (.idx (.var 4) (.cst (.int 0))) (.cst (.int 0))) (.idx (.var 0) (.cst (.int 1)))))) .nil) .nil) (.cons (.ret (.and (.cmp .eq (.var 3) (.tup (.cons (.cst (.str s_step)) .nil))) (.cmp .isin (.var 1) (.idx (.idx (.var 4) (.cst (.int 1))) (.cst (.int 1)))))) .nil))))⟩
def fd_law_waiting : FD := ⟨4, 3, (.cons (.asg (.name 4) (.mk .nil)) (.cons (.loop (.name 5) (.seq (.call 116 (.cons (.var 0) .nil))) (.cons (.asg (.name 6) (.call 115 (.cons (.var 0) (.cons (.var 3) (.cons (.var 5) .nil))))) (.cons (.cond (.cmp .isin (.var 1) (.idx (.idx (.var 6) (.cst (.int 0))) (.cst (.int 3)))) (.cons (.app (.var 4) (.tup (.cons (.var 5) (.cons (.idx (.var 6) (.cst (.int 0))) (.cons (.call 121 (.cons (.var 1) (.cons (.var 2) (.cons (.var 3) (.cons (.var 5) (.cons (.var 6) .nil)))))) .nil))))) .nil) .nil) .nil))) (.cons (.ret (.frz (.var 4))) .nil)))⟩
def fd_law_measure : FD := ⟨3, 2, (.cons (.asg (.name 3) (.bin .add (.lst (.cons (.cst (.str s_steps)) (.cons (.cst (.str s_steps)) (.cons (.cst (.str s_away)) (.cons (.cst (.str s_passed)) .nil))))) (.comp (.var 4) (.name 4) [4] (.seq (.idx (.var 1) (.cst (.int 1)))) (.some (.cmp .ne (.var 4) (.var 2)))))) (.cons (.ret (.call 107 (.cons (.var 0) (.cons (.var 3) .nil)))) .nil))⟩
def fd_law_ended : FD := ⟨4, 6, (.cons (.asg (.tup (.cons (.name 4) (.cons (.name 5) .nil))) (.tup (.cons (.tup (.cons (.cst (.int 0)) (.cons (.cst (.str s_none)) (.cons (.cst (.int 0)) (.cons (.tup .nil) .nil))))) (.cons (.cst (.int 0)) .nil)))) (.cons (.loop (.name 6) (.seq (.var 3)) (.cons (.cond (.cmp .notin (.var 6) (.call 116 (.cons (.var 0) .nil))) (.cons (.ret (.cst .none)) .nil) .nil) (.cons (.asg (.name 7) (.call 115 (.cons (.var 0) (.cons (.var 4) (.cons (.var 6) .nil))))) (.cons (.asg (.name 8) (.and (.cmp .isin (.var 1) (.idx (.var 4) (.cst (.int 3)))) (.cmp .isin (.var 1) (.idx (.idx (.var 7) (.cst (.int 0))) (.cst (.int 3)))))) (.cons (.asg (.name 9) (.call 121 (.cons (.var 1) (.cons (.var 2) (.cons (.var 4) (.cons (.var 6) (.cons (.var 7) .nil))))))) (.cons (.asg (.name 5) (.ite (.var 8) (.bin .add (.var 5) (.bf .int (.cons (.var 9) .nil))) (.cst (.int 0)))) (.cons (.asg (.name 4) (.idx (.var 7) (.cst (.int 0)))) .nil))))))) (.cons (.ret (.tup (.cons (.var 4) (.cons (.var 5) .nil)))) .nil)))⟩
def fd_law_new : FD := ⟨1, 0, (.cons (.ret (.dsp [s_rule, s_state, s_past, s_events, s_answers] (.cons (.var 0) (.cons (.tup (.cons (.cst (.int 0)) (.cons (.cst (.str s_none)) (.cons (.cst (.int 0)) (.cons (.tup .nil) .nil))))) (.cons (.lst .nil) (.cons (.lst .nil) (.cons (.lst .nil) .nil))))))) .nil)⟩
def fd_law_did : FD := ⟨2, 1, (.cons .never .nil)⟩
def fd_law_taken_back : FD := ⟨2, 1, (.cons .never .nil)⟩
def fd_law_stands : FD := ⟨2, 2, (.cons .never .nil)⟩
def fd_law_deed : FD := ⟨3, 4, (.cons .never .nil)⟩
/-- the program, and the defs that laws share -/
def PT0 : List FD := [fd_is_whole, fd_is_word, fd_is_button, fd_are_rising, fd_are_buttons, fd_rule_fault, fd_need_rule, fd_is_rule, fd_is_small_in, fd_is_small, fd_need_small, fd_is_of]
def PT1 : List FD := [fd_are_wants, fd_state_fault, fd_need_state, fd_is_state, fd_free_by, fd_need_button, fd_is_free, fd_is_event_of, fd_towards, fd_nearest_floor, fd_heading_in, fd_told_by]
def PT2 : List FD := [fd_pressed, fd_closing, fd_stepped, fd_done, fd_is_event, fd_heading, fd_step, fd_is_run, fd_need_play, fd_is_play, fd_path_from, fd_trace_in]
def PT3 : List FD := [fd_last_in, fd_trace, fd_last_state, fd_journey_in, fd_rests, fd_journey, fd_steps_left, fd_longest, fd_events_in, fd_events_of, fd_row_to, fd_reached_in]
def PT4 : List FD := [fd_reached, fd_parting_from, fd_need_like, fd_parting, fd_alike, fd_states_parting, fd_states_alike, fd_numbered, fd_kinds, fd_need_asked, fd_does_count, fd_waiting_steps]
def PT5 : List FD := [fd_web_of, fd_ahead_of, fd_ranks_of, fd_way_back, fd_ring_in, fd_to_next, fd_waiting_way, fd_wait_paper, fd_wait, fd_need_lead, fd_check_ring, fd_counted_at_end]
def PT6 : List FD := [fd_does_fit, fd_check_ranks, fd_check_wait, fd_is_served, fd_is_told, fd_need_log, fd_need_rules, fd_fits, fd_rows_of, fd_does_load_fit, fd_loads_for, fd_rules_for]
def PT7 : List FD := [fd_unlike_pairs, fd_told_apart, fd_telling_run, fd_under, fd_button_text, fd_buttons_text, fd_rule_text, fd_is_written, fd_event_text, fd_play_text, fd_floors_of, fd_read_button]
def PT8 : List FD := [fd_read_buttons, fd_read_rule, fd_read_event, fd_read_play, fd_number_in, fd_button_in, fd_measure_in, fd_told_text, fd_tellings_text, fd_law_begun, fd_law_draw, fd_law_of]
def PT9 : List FD := [fd_law_buttons, fd_law_rule, fd_law_said, fd_law_state, fd_law_led, fd_law_is_free, fd_law_step, fd_law_done, fd_law_events, fd_law_play, fd_law_path, fd_law_met]
def PT10 : List FD := [fd_law_left, fd_law_counts, fd_law_waiting, fd_law_measure, fd_law_ended, fd_law_new, fd_law_did, fd_law_taken_back, fd_law_stands, fd_law_deed]
end L2.LC
namespace L2.LC.liftcalls_k11_whole_journeys
open PySem PySem.Spec PyProof.Rows
/-! the law's own defs in the core -/
def fd_law_way : FD := ⟨2, 3, (.cons (.asg (.name 2) (.mk .nil)) (.cons (.asg (.tup (.cons (.name 3) (.cons (.name 4) .nil))) (.call 114 (.cons (.var 0) (.cons (.var 1) .nil)))) (.cons (.whl (.cmp .ne (.var 3) (.var 1)) (.cons (.app (.var 2) (.var 4)) (.cons (.asg (.name 1) (.var 3)) (.cons (.asg (.tup (.cons (.name 3) (.cons (.name 4) .nil))) (.call 114 (.cons (.var 0) (.cons (.var 1) .nil)))) .nil)))) (.cons (.ret (.tup (.cons (.bf .tuple (.cons (.var 2) .nil)) (.cons (.var 1) .nil)))) .nil))))⟩
def fd_law : FD := ⟨1, 11, (.cons (.asg (.name 1) (.call 105 (.cons (.var 0) .nil))) (.cons (.loop (.name 2) (.rng1 (.bin .add (.cst (.int 5)) (.bf .min2 (.cons (.cst (.int 8)) (.cons (.bf .len (.cons (.var 0) .nil)) .nil))))) (.cons (.asg (.name 3) (.call 109 (.cons (.var 1) (.cons (.cst (.int 6)) (.cons (.cst (.int 6)) .nil))))) (.cons (.loop (.name 4) (.rng1 (.cst (.int 5))) (.cons (.asg (.name 5) (.call 111 (.cons (.var 1) (.cons (.var 3) .nil)))) (.cons (.asg (.tup (.cons (.name 6) (.cons (.name 7) .nil))) (.call 130 (.cons (.var 3) (.cons (.var 5) .nil)))) (.cons (.cond (.or (.cmp .ne (.bf .repr (.cons (.call 41 (.cons (.var 3) (.cons (.var 5) .nil))) .nil)) (.bf .repr (.cons (.var 6) .nil))) (.cmp .ne (.bf .repr (.cons (.call 42 (.cons (.var 3) (.cons (.var 5) .nil))) .nil)) (.bf .repr (.cons (.bf .len (.cons (.var 6) .nil)) .nil)))) (.cons (.ret (.cst (.bool false))) .nil) .nil) (.cons (.cond (.or (.cmp .ne (.bf .repr (.cons (.call 40 (.cons (.var 3) (.cons (.var 5) .nil))) .nil)) (.bf .repr (.cons (.cmp .eq (.var 6) (.tup .nil)) .nil))) (.cmp .notN (.call 40 (.cons (.var 3) (.cons (.var 7) .nil))) (.cst (.bool true)))) (.cons (.ret (.cst (.bool false))) .nil) .nil) (.cons (.asg (.name 8) (.lst .nil)) (.cons (.loop (.tup (.cons (.name 9) (.cons (.name 10) .nil))) (.seq (.var 6)) (.cons (.asg (.name 8) (.bin .add (.var 8) (.bf .list (.cons (.var 10) .nil)))) .nil)) (.cons (.cond (.or (.cmp .ne (.bf .sorted (.cons (.var 8) .nil)) (.bf .sorted (.cons (.idx (.var 5) (.cst (.int 3))) .nil))) (.cmp .ne (.slc (.var 7) (.some (.cst (.int 1))) .none) (.tup (.cons (.cst (.str s_none)) (.cons (.cst (.int 0)) (.cons (.tup .nil) .nil)))))) (.cons (.ret (.cst (.bool false))) .nil) .nil) (.cons (.cond (.and (.cmp .eq (.idx (.var 3) (.cst (.int 4))) (.cst (.str s_home))) (.cmp .ne (.idx (.var 7) (.cst (.int 0))) (.cst (.int 0)))) (.cons (.ret (.cst (.bool false))) .nil) .nil) (.cons (.cond (.and (.cmp .ne (.var 6) (.tup .nil)) (.cmp .ne (.call 41 (.cons (.var 3) (.cons (.idx (.call 30 (.cons (.var 3) (.cons (.var 5) (.cons (.tup (.cons (.cst (.str s_step)) .nil)) .nil)))) (.cst (.int 0))) .nil))) (.slc (.var 6) (.some (.cst (.int 1))) .none))) (.cons (.ret (.cst (.bool false))) .nil) .nil) .nil)))))))))) (.cons (.asg (.name 11) (.lst (.cons (.said (.call 41 (.cons (.var 3) (.cons (.cst .none) .nil)))) (.cons (.said (.call 40 (.cons (.var 3) (.cons (.slc (.var 5) .none (.some (.cst (.int 3)))) .nil)))) .nil)))) (.cons (.asg (.name 11) (.bin .add (.var 11) (.lst (.cons (.said (.call 42 (.cons (.var 3) (.cons (.tup (.cons (.cst (.int 0)) (.cons (.cst (.str s_none)) (.cons (.cst (.int 9)) (.cons (.tup .nil) .nil))))) .nil)))) (.cons (.said (.call 43 (.cons (.tup .nil) .nil))) .nil))))) (.cons (.cond (.cmp .ne (.var 11) (.lst (.cons (.tup (.cons (.cst (.str s_state)) (.cons (.tup .nil) .nil))) (.cons (.tup (.cons (.cst (.str s_state)) (.cons (.tup .nil) .nil))) (.cons (.tup (.cons (.cst (.str s_state)) (.cons (.tup (.cons (.cst (.str s_door)) .nil)) .nil))) (.cons (.tup (.cons (.cst (.str s_rule)) (.cons (.tup .nil) .nil))) .nil)))))) (.cons (.ret (.cst (.bool false))) .nil) .nil) .nil)))))) (.cons (.ret (.cst (.bool true))) .nil)))⟩
def own : List FD := [fd_law_way, fd_law]
def fns : List FD := PT0 ++ PT1 ++ PT2 ++ PT3 ++ PT4 ++ PT5 ++ PT6 ++ PT7 ++ PT8 ++ PT9 ++ PT10 ++ own
def nms0 : List (Nat × Str) := [(0, "is_whole"), (1, "is_word"), (2, "is_button"), (3, "are_rising"), (4, "are_buttons"), (5, "rule_fault"), (6, "need_rule"), (8, "is_small_in"), (10, "need_small"), (11, "is_of"), (12, "are_wants"), (13, "state_fault")]
def nms1 : List (Nat × Str) := [(14, "need_state"), (16, "free_by"), (19, "is_event_of"), (20, "towards"), (21, "nearest_floor"), (22, "heading_in"), (23, "told_by"), (24, "pressed"), (25, "closing"), (26, "stepped"), (27, "done"), (30, "step")]
def nms2 : List (Nat × Str) := [(44, "events_in"), (47, "reached_in"), (39, "journey_in"), (40, "rests"), (41, "journey"), (42, "steps_left"), (43, "longest"), (105, "_law_begun"), (106, "_law_draw"), (107, "_law_of"), (108, "_law_buttons"), (109, "_law_rule")]
def nms3 : List (Nat × Str) := [(112, "_law_led"), (113, "_law_is_free"), (114, "_law_step"), (115, "_law_done"), (110, "_law_said"), (111, "_law_state"), (130, "_law_way"), (131, "law")]
def nms : List (Nat × Str) := nms0 ++ nms1 ++ nms2 ++ nms3
def Gp : GI := { fns := fns, nms := nms, cons := [("MOST_FLOORS", (.int 6)), ("MOST_BUTTONS", (.int 6)), ("MOST_SMALL", (.int 4)), ("MOST_OPEN", (.int 3)), ("IN", (.str s_in)), ("UP", (.str s_up)), ("DOWN", (.str s_down)), ("NONE", (.str s_none)), ("SWEEP", (.str s_sweep)), ("NEAREST", (.str s_nearest)), ("ELDEST", (.str s_eldest)), ("ALL", (.str s_all)), ("WAY", (.str s_way)), ("END", (.str s_end)), ("STAY", (.str s_stay)), ("HOME", (.str s_home)), ("PICKS", (.tuple [(.str s_sweep), (.str s_nearest), (.str s_eldest)])), ("TAKES", (.tuple [(.str s_all), (.str s_way), (.str s_end)])), ("RESTS", (.tuple [(.str s_stay), (.str s_home)])), ("START", (.tuple [(.int 0), (.str s_none), (.int 0), (.tuple [])])), ("HEADINGS", (.tuple [(.str s_up), (.str s_down), (.str s_none)])), ("PRESS", (.str s_press)), ("STEP", (.tuple [(.str s_step)]))], tabs := [("WAYS", tab_WAYS)], err := true, rs := ["BadRule", "BadState", "BadPlay", "BadPaper", "BadLog", "BadText", "BadEvent", "BadButton", "BadMeasure", "TooMany", "Missing", "BadQuestion"], lam := ["law"] }
def G : GI := { Gp with said := true, sbd := saidBody Gp }
set_option maxHeartbeats 4000000
/-! the text as it stands -/
def top (i : Nat) : Stmt := PySem.Challenge.pw_liftcalls_k11_whole_journeys.main.body.getD i (.Pass ⟨0, 0, 0, 0⟩)
abbrev st_is_whole : Stmt := top 35
def di_is_whole : DefIn := ⟨0, "is_whole", ["thing", "least", "most"], fd_is_whole, ⟨("is_whole", none), "is_whole", "is_whole", defArgs st_is_whole, defBody st_is_whole, defScope st_is_whole, [], []⟩, ["thing", "least", "most"]⟩
theorem ok_is_whole : di_is_whole.Ok G := ⟨rfl, rfl, rfl, rfl, rfl, rfl, ⟨rfl, rfl, rfl, by decide +kernel, rfl, by decide +kernel, by decide +kernel⟩, rfl, rfl, by decide +kernel, by decide +kernel, fun _ _ _ _ _ _ us hl => match us, hl with | [_, _, _], _ => rfl⟩
abbrev st_is_word : Stmt := top 36
def di_is_word : DefIn := ⟨1, "is_word", ["thing", "words"], fd_is_word, ⟨("is_word", none), "is_word", "is_word", defArgs st_is_word, defBody st_is_word, defScope st_is_word, [], []⟩, ["thing", "words"]⟩
theorem ok_is_word : di_is_word.Ok G := ⟨rfl, rfl, rfl, rfl, rfl, rfl, ⟨rfl, rfl, rfl, by decide +kernel, rfl, by decide +kernel, by decide +kernel⟩, rfl, rfl, by decide +kernel, by decide +kernel, fun _ _ _ _ _ _ us hl => match us, hl with | [_, _], _ => rfl⟩
abbrev st_is_button : Stmt := top 37
def di_is_button : DefIn := ⟨2, "is_button", ["floors", "thing"], fd_is_button, ⟨("is_button", none), "is_button", "is_button", defArgs st_is_button, defBody st_is_button, defScope st_is_button, [], []⟩, ["floors", "thing"]⟩
theorem ok_is_button : di_is_button.Ok G := ⟨rfl, rfl, rfl, rfl, rfl, rfl, ⟨rfl, rfl, rfl, by decide +kernel, rfl, by decide +kernel, by decide +kernel⟩, rfl, rfl, by decide +kernel, by decide +kernel, fun _ _ _ _ _ _ us hl => match us, hl with | [_, _], _ => rfl⟩
abbrev st_are_rising : Stmt := top 38
def di_are_rising : DefIn := ⟨3, "are_rising", ["things", "one", "other"], fd_are_rising, ⟨("are_rising", none), "are_rising", "are_rising", defArgs st_are_rising, defBody st_are_rising, defScope st_are_rising, [], []⟩, ["things"]⟩
theorem ok_are_rising : di_are_rising.Ok G := ⟨rfl, rfl, rfl, rfl, rfl, rfl, ⟨rfl, rfl, rfl, by decide +kernel, rfl, by decide +kernel, by decide +kernel⟩, rfl, rfl, by decide +kernel, by decide +kernel, fun _ _ _ _ _ _ us hl => match us, hl with | [_], _ => rfl⟩
abbrev st_are_buttons : Stmt := top 39
def di_are_buttons : DefIn := ⟨4, "are_buttons", ["floors", "thing", "button"], fd_are_buttons, ⟨("are_buttons", none), "are_buttons", "are_buttons", defArgs st_are_buttons, defBody st_are_buttons, defScope st_are_buttons, [], []⟩, ["floors", "thing"]⟩
theorem ok_are_buttons : di_are_buttons.Ok G := ⟨rfl, rfl, rfl, rfl, rfl, rfl, ⟨rfl, rfl, rfl, by decide +kernel, rfl, by decide +kernel, by decide +kernel⟩, rfl, rfl, by decide +kernel, by decide +kernel, fun _ _ _ _ _ _ us hl => match us, hl with | [_, _], _ => rfl⟩
abbrev st_rule_fault : Stmt := top 40
def di_rule_fault : DefIn := ⟨5, "rule_fault", ["thing", "floors", "buttons", "pick", "take", "rest", "hold", "quick", "many", "rows", "wrong", "word", "is_right"], fd_rule_fault, ⟨("rule_fault", none), "rule_fault", "rule_fault", defArgs st_rule_fault, defBody st_rule_fault, defScope st_rule_fault, [], []⟩, ["thing"]⟩
theorem ok_rule_fault : di_rule_fault.Ok G := ⟨rfl, rfl, rfl, rfl, rfl, rfl, ⟨rfl, rfl, rfl, by decide +kernel, rfl, by decide +kernel, by decide +kernel⟩, rfl, rfl, by decide +kernel, by decide +kernel, fun _ _ _ _ _ _ us hl => match us, hl with | [_], _ => rfl⟩
abbrev st_need_rule : Stmt := top 41
def di_need_rule : DefIn := ⟨6, "need_rule", ["thing", "place"], fd_need_rule, ⟨("need_rule", none), "need_rule", "need_rule", defArgs st_need_rule, defBody st_need_rule, defScope st_need_rule, [], []⟩, ["thing"]⟩
theorem ok_need_rule : di_need_rule.Ok G := ⟨rfl, rfl, rfl, rfl, rfl, rfl, ⟨rfl, rfl, rfl, by decide +kernel, rfl, by decide +kernel, by decide +kernel⟩, rfl, rfl, by decide +kernel, by decide +kernel, fun _ _ _ _ _ _ us hl => match us, hl with | [_], _ => rfl⟩
abbrev st_is_small_in : Stmt := top 42
def di_is_small_in : DefIn := ⟨8, "is_small_in", ["rule"], fd_is_small_in, ⟨("is_small_in", none), "is_small_in", "is_small_in", defArgs st_is_small_in, defBody st_is_small_in, defScope st_is_small_in, [], []⟩, ["rule"]⟩
theorem ok_is_small_in : di_is_small_in.Ok G := ⟨rfl, rfl, rfl, rfl, rfl, rfl, ⟨rfl, rfl, rfl, by decide +kernel, rfl, by decide +kernel, by decide +kernel⟩, rfl, rfl, by decide +kernel, by decide +kernel, fun _ _ _ _ _ _ us hl => match us, hl with | [_], _ => rfl⟩
abbrev st_need_small : Stmt := top 43
def di_need_small : DefIn := ⟨10, "need_small", ["rule"], fd_need_small, ⟨("need_small", none), "need_small", "need_small", defArgs st_need_small, defBody st_need_small, defScope st_need_small, [], []⟩, ["rule"]⟩
theorem ok_need_small : di_need_small.Ok G := ⟨rfl, rfl, rfl, rfl, rfl, rfl, ⟨rfl, rfl, rfl, by decide +kernel, rfl, by decide +kernel, by decide +kernel⟩, rfl, rfl, by decide +kernel, by decide +kernel, fun _ _ _ _ _ _ us hl => match us, hl with | [_], _ => rfl⟩
abbrev st_is_of : Stmt := top 47
def di_is_of : DefIn := ⟨11, "is_of", ["rule", "thing"], fd_is_of, ⟨("is_of", none), "is_of", "is_of", defArgs st_is_of, defBody st_is_of, defScope st_is_of, [], []⟩, ["rule", "thing"]⟩
theorem ok_is_of : di_is_of.Ok G := ⟨rfl, rfl, rfl, rfl, rfl, rfl, ⟨rfl, rfl, rfl, by decide +kernel, rfl, by decide +kernel, by decide +kernel⟩, rfl, rfl, by decide +kernel, by decide +kernel, fun _ _ _ _ _ _ us hl => match us, hl with | [_, _], _ => rfl⟩
abbrev st_are_wants : Stmt := top 48
def di_are_wants : DefIn := ⟨12, "are_wants", ["rule", "thing", "button"], fd_are_wants, ⟨("are_wants", none), "are_wants", "are_wants", defArgs st_are_wants, defBody st_are_wants, defScope st_are_wants, [], []⟩, ["rule", "thing"]⟩
theorem ok_are_wants : di_are_wants.Ok G := ⟨rfl, rfl, rfl, rfl, rfl, rfl, ⟨rfl, rfl, rfl, by decide +kernel, rfl, by decide +kernel, by decide +kernel⟩, rfl, rfl, by decide +kernel, by decide +kernel, fun _ _ _ _ _ _ us hl => match us, hl with | [_, _], _ => rfl⟩
abbrev st_state_fault : Stmt := top 49
def di_state_fault : DefIn := ⟨13, "state_fault", ["rule", "thing", "floor", "heading", "door", "wants", "rows", "wrong", "word", "is_right"], fd_state_fault, ⟨("state_fault", none), "state_fault", "state_fault", defArgs st_state_fault, defBody st_state_fault, defScope st_state_fault, [], []⟩, ["rule", "thing"]⟩
theorem ok_state_fault : di_state_fault.Ok G := ⟨rfl, rfl, rfl, rfl, rfl, rfl, ⟨rfl, rfl, rfl, by decide +kernel, rfl, by decide +kernel, by decide +kernel⟩, rfl, rfl, by decide +kernel, by decide +kernel, fun _ _ _ _ _ _ us hl => match us, hl with | [_, _], _ => rfl⟩
abbrev st_need_state : Stmt := top 50
def di_need_state : DefIn := ⟨14, "need_state", ["rule", "thing", "place"], fd_need_state, ⟨("need_state", none), "need_state", "need_state", defArgs st_need_state, defBody st_need_state, defScope st_need_state, [], []⟩, ["rule", "thing"]⟩
theorem ok_need_state : di_need_state.Ok G := ⟨rfl, rfl, rfl, rfl, rfl, rfl, ⟨rfl, rfl, rfl, by decide +kernel, rfl, by decide +kernel, by decide +kernel⟩, rfl, rfl, by decide +kernel, by decide +kernel, fun _ _ _ _ _ _ us hl => match us, hl with | [_, _], _ => rfl⟩
abbrev st_free_by : Stmt := top 51
def di_free_by : DefIn := ⟨16, "free_by", ["rule", "old", "new", "button"], fd_free_by, ⟨("free_by", none), "free_by", "free_by", defArgs st_free_by, defBody st_free_by, defScope st_free_by, [], []⟩, ["rule", "old", "new", "button"]⟩
theorem ok_free_by : di_free_by.Ok G := ⟨rfl, rfl, rfl, rfl, rfl, rfl, ⟨rfl, rfl, rfl, by decide +kernel, rfl, by decide +kernel, by decide +kernel⟩, rfl, rfl, by decide +kernel, by decide +kernel, fun _ _ _ _ _ _ us hl => match us, hl with | [_, _, _, _], _ => rfl⟩
abbrev st_is_event_of : Stmt := top 56
def di_is_event_of : DefIn := ⟨19, "is_event_of", ["rule", "thing"], fd_is_event_of, ⟨("is_event_of", none), "is_event_of", "is_event_of", defArgs st_is_event_of, defBody st_is_event_of, defScope st_is_event_of, [], []⟩, ["rule", "thing"]⟩
theorem ok_is_event_of : di_is_event_of.Ok G := ⟨rfl, rfl, rfl, rfl, rfl, rfl, ⟨rfl, rfl, rfl, by decide +kernel, rfl, by decide +kernel, by decide +kernel⟩, rfl, rfl, by decide +kernel, by decide +kernel, fun _ _ _ _ _ _ us hl => match us, hl with | [_, _], _ => rfl⟩
abbrev st_towards : Stmt := top 57
def di_towards : DefIn := ⟨20, "towards", ["floor", "goal"], fd_towards, ⟨("towards", none), "towards", "towards", defArgs st_towards, defBody st_towards, defScope st_towards, [], []⟩, ["floor", "goal"]⟩
theorem ok_towards : di_towards.Ok G := ⟨rfl, rfl, rfl, rfl, rfl, rfl, ⟨rfl, rfl, rfl, by decide +kernel, rfl, by decide +kernel, by decide +kernel⟩, rfl, rfl, by decide +kernel, by decide +kernel, fun _ _ _ _ _ _ us hl => match us, hl with | [_, _], _ => rfl⟩
abbrev st_nearest_floor : Stmt := top 58
def di_nearest_floor : DefIn := ⟨21, "nearest_floor", ["state", "floor", "heading", "door", "wants", "rows", "word", "goal", "is_other"], fd_nearest_floor, ⟨("nearest_floor", none), "nearest_floor", "nearest_floor", defArgs st_nearest_floor, defBody st_nearest_floor, defScope st_nearest_floor, [], []⟩, ["state"]⟩
theorem ok_nearest_floor : di_nearest_floor.Ok G := ⟨rfl, rfl, rfl, rfl, rfl, rfl, ⟨rfl, rfl, rfl, by decide +kernel, rfl, by decide +kernel, by decide +kernel⟩, rfl, rfl, by decide +kernel, by decide +kernel, fun _ _ _ _ _ _ us hl => match us, hl with | [_], _ => rfl⟩
abbrev st_heading_in : Stmt := top 59
def di_heading_in : DefIn := ⟨22, "heading_in", ["rule", "state", "floor", "heading", "door", "wants", "is_above", "word", "goal", "is_below"], fd_heading_in, ⟨("heading_in", none), "heading_in", "heading_in", defArgs st_heading_in, defBody st_heading_in, defScope st_heading_in, [], []⟩, ["rule", "state"]⟩
theorem ok_heading_in : di_heading_in.Ok G := ⟨rfl, rfl, rfl, rfl, rfl, rfl, ⟨rfl, rfl, rfl, by decide +kernel, rfl, by decide +kernel, by decide +kernel⟩, rfl, rfl, by decide +kernel, by decide +kernel, fun _ _ _ _ _ _ us hl => match us, hl with | [_, _], _ => rfl⟩
abbrev st_told_by : Stmt := top 60
def di_told_by : DefIn := ⟨23, "told_by", ["state", "served"], fd_told_by, ⟨("told_by", none), "told_by", "told_by", defArgs st_told_by, defBody st_told_by, defScope st_told_by, [], []⟩, ["state", "served"]⟩
theorem ok_told_by : di_told_by.Ok G := ⟨rfl, rfl, rfl, rfl, rfl, rfl, ⟨rfl, rfl, rfl, by decide +kernel, rfl, by decide +kernel, by decide +kernel⟩, rfl, rfl, by decide +kernel, by decide +kernel, fun _ _ _ _ _ _ us hl => match us, hl with | [_, _], _ => rfl⟩
abbrev st_pressed : Stmt := top 61
def di_pressed : DefIn := ⟨24, "pressed", ["rule", "state", "button", "floor", "heading", "door", "wants"], fd_pressed, ⟨("pressed", none), "pressed", "pressed", defArgs st_pressed, defBody st_pressed, defScope st_pressed, [], []⟩, ["rule", "state", "button"]⟩
theorem ok_pressed : di_pressed.Ok G := ⟨rfl, rfl, rfl, rfl, rfl, rfl, ⟨rfl, rfl, rfl, by decide +kernel, rfl, by decide +kernel, by decide +kernel⟩, rfl, rfl, by decide +kernel, by decide +kernel, fun _ _ _ _ _ _ us hl => match us, hl with | [_, _, _], _ => rfl⟩
abbrev st_closing : Stmt := top 62
def di_closing : DefIn := ⟨25, "closing", ["rule", "state", "floor", "heading", "door", "wants", "word", "goal"], fd_closing, ⟨("closing", none), "closing", "closing", defArgs st_closing, defBody st_closing, defScope st_closing, [], []⟩, ["rule", "state"]⟩
theorem ok_closing : di_closing.Ok G := ⟨rfl, rfl, rfl, rfl, rfl, rfl, ⟨rfl, rfl, rfl, by decide +kernel, rfl, by decide +kernel, by decide +kernel⟩, rfl, rfl, by decide +kernel, by decide +kernel, fun _ _ _ _ _ _ us hl => match us, hl with | [_, _], _ => rfl⟩
abbrev st_stepped : Stmt := top 63
def di_stepped : DefIn := ⟨26, "stepped", ["rule", "state", "floor", "heading", "door", "wants", "is_led", "new", "served", "button"], fd_stepped, ⟨("stepped", none), "stepped", "stepped", defArgs st_stepped, defBody st_stepped, defScope st_stepped, [], []⟩, ["rule", "state"]⟩
theorem ok_stepped : di_stepped.Ok G := ⟨rfl, rfl, rfl, rfl, rfl, rfl, ⟨rfl, rfl, rfl, by decide +kernel, rfl, by decide +kernel, by decide +kernel⟩, rfl, rfl, by decide +kernel, by decide +kernel, fun _ _ _ _ _ _ us hl => match us, hl with | [_, _], _ => rfl⟩
abbrev st_done : Stmt := top 64
def di_done : DefIn := ⟨27, "done", ["rule", "state", "event"], fd_done, ⟨("done", none), "done", "done", defArgs st_done, defBody st_done, defScope st_done, [], []⟩, ["rule", "state", "event"]⟩
theorem ok_done : di_done.Ok G := ⟨rfl, rfl, rfl, rfl, rfl, rfl, ⟨rfl, rfl, rfl, by decide +kernel, rfl, by decide +kernel, by decide +kernel⟩, rfl, rfl, by decide +kernel, by decide +kernel, fun _ _ _ _ _ _ us hl => match us, hl with | [_, _, _], _ => rfl⟩
abbrev st_step : Stmt := top 65
def di_step : DefIn := ⟨30, "step", ["rule", "state", "event"], fd_step, ⟨("step", none), "step", "step", defArgs st_step, defBody st_step, defScope st_step, [], []⟩, ["rule", "state", "event"]⟩
theorem ok_step : di_step.Ok G := ⟨rfl, rfl, rfl, rfl, rfl, rfl, ⟨rfl, rfl, rfl, by decide +kernel, rfl, by decide +kernel, by decide +kernel⟩, rfl, rfl, by decide +kernel, by decide +kernel, fun _ _ _ _ _ _ us hl => match us, hl with | [_, _, _], _ => rfl⟩
abbrev st_events_in : Stmt := top 67
def di_events_in : DefIn := ⟨44, "events_in", ["rule", "button"], fd_events_in, ⟨("events_in", none), "events_in", "events_in", defArgs st_events_in, defBody st_events_in, defScope st_events_in, [], []⟩, ["rule"]⟩
theorem ok_events_in : di_events_in.Ok G := ⟨rfl, rfl, rfl, rfl, rfl, rfl, ⟨rfl, rfl, rfl, by decide +kernel, rfl, by decide +kernel, by decide +kernel⟩, rfl, rfl, by decide +kernel, by decide +kernel, fun _ _ _ _ _ _ us hl => match us, hl with | [_], _ => rfl⟩
abbrev st_reached_in : Stmt := top 68
def di_reached_in : DefIn := ⟨47, "reached_in", ["rule", "came", "front", "later", "state", "event", "behind"], fd_reached_in, ⟨("reached_in", none), "reached_in", "reached_in", defArgs st_reached_in, defBody st_reached_in, defScope st_reached_in, [], []⟩, ["rule"]⟩
theorem ok_reached_in : di_reached_in.Ok G := ⟨rfl, rfl, rfl, rfl, rfl, rfl, ⟨rfl, rfl, rfl, by decide +kernel, rfl, by decide +kernel, by decide +kernel⟩, rfl, rfl, by decide +kernel, by decide +kernel, fun _ _ _ _ _ _ us hl => match us, hl with | [_], _ => rfl⟩
abbrev st_journey_in : Stmt := top 70
def di_journey_in : DefIn := ⟨39, "journey_in", ["rule", "state", "found", "behind", "told"], fd_journey_in, ⟨("journey_in", none), "journey_in", "journey_in", defArgs st_journey_in, defBody st_journey_in, defScope st_journey_in, [], []⟩, ["rule", "state"]⟩
theorem ok_journey_in : di_journey_in.Ok G := ⟨rfl, rfl, rfl, rfl, rfl, rfl, ⟨rfl, rfl, rfl, by decide +kernel, rfl, by decide +kernel, by decide +kernel⟩, rfl, rfl, by decide +kernel, by decide +kernel, fun _ _ _ _ _ _ us hl => match us, hl with | [_, _], _ => rfl⟩
abbrev st_rests : Stmt := top 71
def di_rests : DefIn := ⟨40, "rests", ["rule", "state"], fd_rests, ⟨("rests", none), "rests", "rests", defArgs st_rests, defBody st_rests, defScope st_rests, [], []⟩, ["rule", "state"]⟩
theorem ok_rests : di_rests.Ok G := ⟨rfl, rfl, rfl, rfl, rfl, rfl, ⟨rfl, rfl, rfl, by decide +kernel, rfl, by decide +kernel, by decide +kernel⟩, rfl, rfl, by decide +kernel, by decide +kernel, fun _ _ _ _ _ _ us hl => match us, hl with | [_, _], _ => rfl⟩
abbrev st_journey : Stmt := top 72
def di_journey : DefIn := ⟨41, "journey", ["rule", "state"], fd_journey, ⟨("journey", none), "journey", "journey", defArgs st_journey, defBody st_journey, defScope st_journey, [], []⟩, ["rule", "state"]⟩
theorem ok_journey : di_journey.Ok G := ⟨rfl, rfl, rfl, rfl, rfl, rfl, ⟨rfl, rfl, rfl, by decide +kernel, rfl, by decide +kernel, by decide +kernel⟩, rfl, rfl, by decide +kernel, by decide +kernel, fun _ _ _ _ _ _ us hl => match us, hl with | [_, _], _ => rfl⟩
abbrev st_steps_left : Stmt := top 73
def di_steps_left : DefIn := ⟨42, "steps_left", ["rule", "state"], fd_steps_left, ⟨("steps_left", none), "steps_left", "steps_left", defArgs st_steps_left, defBody st_steps_left, defScope st_steps_left, [], []⟩, ["rule", "state"]⟩
theorem ok_steps_left : di_steps_left.Ok G := ⟨rfl, rfl, rfl, rfl, rfl, rfl, ⟨rfl, rfl, rfl, by decide +kernel, rfl, by decide +kernel, by decide +kernel⟩, rfl, rfl, by decide +kernel, by decide +kernel, fun _ _ _ _ _ _ us hl => match us, hl with | [_, _], _ => rfl⟩
abbrev st_longest : Stmt := top 74
def di_longest : DefIn := ⟨43, "longest", ["rule", "state"], fd_longest, ⟨("longest", none), "longest", "longest", defArgs st_longest, defBody st_longest, defScope st_longest, [], []⟩, ["rule"]⟩
theorem ok_longest : di_longest.Ok G := ⟨rfl, rfl, rfl, rfl, rfl, rfl, ⟨rfl, rfl, rfl, by decide +kernel, rfl, by decide +kernel, by decide +kernel⟩, rfl, rfl, by decide +kernel, by decide +kernel, fun _ _ _ _ _ _ us hl => match us, hl with | [_], _ => rfl⟩
abbrev st_law_begun : Stmt := top 76
def di_law_begun : DefIn := ⟨105, "_law_begun", ["_law_script", "_law_seed", "_law_cell"], fd_law_begun, ⟨("_law_begun", none), "_law_begun", "_law_begun", defArgs st_law_begun, defBody st_law_begun, defScope st_law_begun, [], []⟩, ["_law_script"]⟩
theorem ok_law_begun : di_law_begun.Ok G := ⟨rfl, rfl, rfl, rfl, rfl, rfl, ⟨rfl, rfl, rfl, by decide +kernel, rfl, by decide +kernel, by decide +kernel⟩, rfl, rfl, by decide +kernel, by decide +kernel, fun _ _ _ _ _ _ us hl => match us, hl with | [_], _ => rfl⟩
abbrev st_law_draw : Stmt := top 77
def di_law_draw : DefIn := ⟨106, "_law_draw", ["_law_m", "_law_limit", "_law_cell", "_law_mixed"], fd_law_draw, ⟨("_law_draw", none), "_law_draw", "_law_draw", defArgs st_law_draw, defBody st_law_draw, defScope st_law_draw, [], []⟩, ["_law_m", "_law_limit"]⟩
theorem ok_law_draw : di_law_draw.Ok G := ⟨rfl, rfl, rfl, rfl, rfl, rfl, ⟨rfl, rfl, rfl, by decide +kernel, rfl, by decide +kernel, by decide +kernel⟩, rfl, rfl, by decide +kernel, by decide +kernel, fun _ _ _ _ _ _ us hl => match us, hl with | [_, _], _ => rfl⟩
abbrev st_law_of : Stmt := top 78
def di_law_of : DefIn := ⟨107, "_law_of", ["_law_m", "_law_some"], fd_law_of, ⟨("_law_of", none), "_law_of", "_law_of", defArgs st_law_of, defBody st_law_of, defScope st_law_of, [], []⟩, ["_law_m", "_law_some"]⟩
theorem ok_law_of : di_law_of.Ok G := ⟨rfl, rfl, rfl, rfl, rfl, rfl, ⟨rfl, rfl, rfl, by decide +kernel, rfl, by decide +kernel, by decide +kernel⟩, rfl, rfl, by decide +kernel, by decide +kernel, fun _ _ _ _ _ _ us hl => match us, hl with | [_, _], _ => rfl⟩
abbrev st_law_buttons : Stmt := top 79
def di_law_buttons : DefIn := ⟨108, "_law_buttons", ["_law_m", "_law_floors", "_law_most", "_law_every", "_law_k", "_law_found"], fd_law_buttons, ⟨("_law_buttons", none), "_law_buttons", "_law_buttons", defArgs st_law_buttons, defBody st_law_buttons, defScope st_law_buttons, [], []⟩, ["_law_m", "_law_floors", "_law_most"]⟩
theorem ok_law_buttons : di_law_buttons.Ok G := ⟨rfl, rfl, rfl, rfl, rfl, rfl, ⟨rfl, rfl, rfl, by decide +kernel, rfl, by decide +kernel, by decide +kernel⟩, rfl, rfl, by decide +kernel, by decide +kernel, fun _ _ _ _ _ _ us hl => match us, hl with | [_, _, _], _ => rfl⟩
abbrev st_law_rule : Stmt := top 80
def di_law_rule : DefIn := ⟨109, "_law_rule", ["_law_m", "_law_floors", "_law_most", "_law_high", "_law_some", "_law_pick", "_law_lasts"], fd_law_rule, ⟨("_law_rule", none), "_law_rule", "_law_rule", defArgs st_law_rule, defBody st_law_rule, defScope st_law_rule, [], []⟩, ["_law_m", "_law_floors", "_law_most"]⟩
theorem ok_law_rule : di_law_rule.Ok G := ⟨rfl, rfl, rfl, rfl, rfl, rfl, ⟨rfl, rfl, rfl, by decide +kernel, rfl, by decide +kernel, by decide +kernel⟩, rfl, rfl, by decide +kernel, by decide +kernel, fun _ _ _ _ _ _ us hl => match us, hl with | [_, _, _], _ => rfl⟩
abbrev st_law_led : Stmt := top 81
def di_law_led : DefIn := ⟨112, "_law_led", ["_law_rule_here", "_law_state_here", "_law_floor", "_law_facing", "_law_door", "_law_wants", "_law_goals", "_law_word", "_law_goal", "_law_near", "_law_one", "_law_some"], fd_law_led, ⟨("_law_led", none), "_law_led", "_law_led", defArgs st_law_led, defBody st_law_led, defScope st_law_led, [], []⟩, ["_law_rule_here", "_law_state_here"]⟩
theorem ok_law_led : di_law_led.Ok G := ⟨rfl, rfl, rfl, rfl, rfl, rfl, ⟨rfl, rfl, rfl, by decide +kernel, rfl, by decide +kernel, by decide +kernel⟩, rfl, rfl, by decide +kernel, by decide +kernel, fun _ _ _ _ _ _ us hl => match us, hl with | [_, _], _ => rfl⟩
abbrev st_law_is_free : Stmt := top 82
def di_law_is_free : DefIn := ⟨113, "_law_is_free", ["_law_rule_here", "_law_old", "_law_new", "_law_button"], fd_law_is_free, ⟨("_law_is_free", none), "_law_is_free", "_law_is_free", defArgs st_law_is_free, defBody st_law_is_free, defScope st_law_is_free, [], []⟩, ["_law_rule_here", "_law_old", "_law_new", "_law_button"]⟩
theorem ok_law_is_free : di_law_is_free.Ok G := ⟨rfl, rfl, rfl, rfl, rfl, rfl, ⟨rfl, rfl, rfl, by decide +kernel, rfl, by decide +kernel, by decide +kernel⟩, rfl, rfl, by decide +kernel, by decide +kernel, fun _ _ _ _ _ _ us hl => match us, hl with | [_, _, _, _], _ => rfl⟩
abbrev st_law_step : Stmt := top 83
def di_law_step : DefIn := ⟨114, "_law_step", ["_law_rule_here", "_law_state_here", "_law_floor", "_law_facing", "_law_door", "_law_wants", "_law_ways", "_law_word", "_law_goal", "_law_new", "_law_here", "_law_button", "_law_left"], fd_law_step, ⟨("_law_step", none), "_law_step", "_law_step", defArgs st_law_step, defBody st_law_step, defScope st_law_step, [], []⟩, ["_law_rule_here", "_law_state_here"]⟩
theorem ok_law_step : di_law_step.Ok G := ⟨rfl, rfl, rfl, rfl, rfl, rfl, ⟨rfl, rfl, rfl, by decide +kernel, rfl, by decide +kernel, by decide +kernel⟩, rfl, rfl, by decide +kernel, by decide +kernel, fun _ _ _ _ _ _ us hl => match us, hl with | [_, _], _ => rfl⟩
abbrev st_law_done : Stmt := top 84
def di_law_done : DefIn := ⟨115, "_law_done", ["_law_rule_here", "_law_state_here", "_law_event", "_law_floor", "_law_facing", "_law_door", "_law_wants", "_law_fresh"], fd_law_done, ⟨("_law_done", none), "_law_done", "_law_done", defArgs st_law_done, defBody st_law_done, defScope st_law_done, [], []⟩, ["_law_rule_here", "_law_state_here", "_law_event"]⟩
theorem ok_law_done : di_law_done.Ok G := ⟨rfl, rfl, rfl, rfl, rfl, rfl, ⟨rfl, rfl, rfl, by decide +kernel, rfl, by decide +kernel, by decide +kernel⟩, rfl, rfl, by decide +kernel, by decide +kernel, fun _ _ _ _ _ _ us hl => match us, hl with | [_, _, _], _ => rfl⟩
abbrev st_law_said : Stmt := top 85
def di_law_said : DefIn := ⟨110, "_law_said", ["_law_call", "_law_caught", "_law_found", "e"], fd_law_said, ⟨("_law_said", none), "_law_said", "_law_said", defArgs st_law_said, defBody st_law_said, defScope st_law_said, [], []⟩, ["_law_call"]⟩
theorem ok_law_said : di_law_said.Ok G := ⟨rfl, rfl, rfl, rfl, rfl, rfl, ⟨rfl, rfl, rfl, by decide +kernel, rfl, by decide +kernel, by decide +kernel⟩, rfl, rfl, by decide +kernel, by decide +kernel, fun _ _ _ _ _ _ us hl => match us, hl with | [_], _ => rfl⟩
abbrev st_law_state : Stmt := top 86
def di_law_state : DefIn := ⟨111, "_law_state", ["_law_m", "_law_rule_here", "_law_some", "_law_wants", "_law_k"], fd_law_state, ⟨("_law_state", none), "_law_state", "_law_state", defArgs st_law_state, defBody st_law_state, defScope st_law_state, [], []⟩, ["_law_m", "_law_rule_here"]⟩
theorem ok_law_state : di_law_state.Ok G := ⟨rfl, rfl, rfl, rfl, rfl, rfl, ⟨rfl, rfl, rfl, by decide +kernel, rfl, by decide +kernel, by decide +kernel⟩, rfl, rfl, by decide +kernel, by decide +kernel, fun _ _ _ _ _ _ us hl => match us, hl with | [_, _], _ => rfl⟩
abbrev st_law_way : Stmt := top 87
def di_law_way : DefIn := ⟨130, "_law_way", ["_law_rule_here", "_law_state_here", "_law_found", "_law_behind", "_law_answer"], fd_law_way, ⟨("_law_way", none), "_law_way", "_law_way", defArgs st_law_way, defBody st_law_way, defScope st_law_way, [], []⟩, ["_law_rule_here", "_law_state_here"]⟩
theorem ok_law_way : di_law_way.Ok G := ⟨rfl, rfl, rfl, rfl, rfl, rfl, ⟨rfl, rfl, rfl, by decide +kernel, rfl, by decide +kernel, by decide +kernel⟩, rfl, rfl, by decide +kernel, by decide +kernel, fun _ _ _ _ _ _ us hl => match us, hl with | [_, _], _ => rfl⟩
abbrev st_law : Stmt := top 88
def di_law : DefIn := ⟨131, "law", ["_law_script", "_law_m", "_law_turn", "_law_rule_here", "_law_again", "_law_state_here", "_law_due", "_law_last", "_law_served", "_law_floor", "_law_some", "_law_answer"], fd_law, ⟨("law", none), "law", "law", defArgs st_law, defBody st_law, defScope st_law, [], []⟩, ["_law_script"]⟩
theorem ok_law : di_law.Ok G := ⟨rfl, rfl, rfl, rfl, rfl, rfl, ⟨rfl, rfl, rfl, by decide +kernel, rfl, by decide +kernel, by decide +kernel⟩, rfl, rfl, by decide +kernel, by decide +kernel, fun _ _ _ _ _ _ us hl => match us, hl with | [_], _ => rfl⟩
def defs : List DefIn := [di_is_whole, di_is_word, di_is_button, di_are_rising, di_are_buttons, di_rule_fault, di_need_rule, di_is_small_in, di_need_small, di_is_of, di_are_wants, di_state_fault, di_need_state, di_free_by, di_is_event_of, di_towards, di_nearest_floor, di_heading_in, di_told_by, di_pressed, di_closing, di_stepped, di_done, di_step, di_events_in, di_reached_in, di_journey_in, di_rests, di_journey, di_steps_left, di_longest, di_law_begun, di_law_draw, di_law_of, di_law_buttons, di_law_rule, di_law_led, di_law_is_free, di_law_step, di_law_done, di_law_said, di_law_state, di_law_way, di_law]
theorem oks : ∀ x ∈ defs, x.Ok G := by
  intro x hx
  simp only [defs, List.mem_cons, List.not_mem_nil, or_false] at hx
  rcases hx with rfl | rfl | rfl | rfl | rfl | rfl | rfl | rfl | rfl | rfl | rfl | rfl | rfl | rfl | rfl | rfl | rfl | rfl | rfl | rfl | rfl | rfl | rfl | rfl | rfl | rfl | rfl | rfl | rfl | rfl | rfl | rfl | rfl | rfl | rfl | rfl | rfl | rfl | rfl | rfl | rfl | rfl | rfl | rfl
  · exact ok_is_whole
  · exact ok_is_word
  · exact ok_is_button
  · exact ok_are_rising
  · exact ok_are_buttons
  · exact ok_rule_fault
  · exact ok_need_rule
  · exact ok_is_small_in
  · exact ok_need_small
  · exact ok_is_of
  · exact ok_are_wants
  · exact ok_state_fault
  · exact ok_need_state
  · exact ok_free_by
  · exact ok_is_event_of
  · exact ok_towards
  · exact ok_nearest_floor
  · exact ok_heading_in
  · exact ok_told_by
  · exact ok_pressed
  · exact ok_closing
  · exact ok_stepped
  · exact ok_done
  · exact ok_step
  · exact ok_events_in
  · exact ok_reached_in
  · exact ok_journey_in
  · exact ok_rests
  · exact ok_journey
  · exact ok_steps_left
  · exact ok_longest
  · exact ok_law_begun
  · exact ok_law_draw
  · exact ok_law_of
  · exact ok_law_buttons
  · exact ok_law_rule
  · exact ok_law_led
  · exact ok_law_is_free
  · exact ok_law_step
  · exact ok_law_done
  · exact ok_law_said
  · exact ok_law_state
  · exact ok_law_way
  · exact ok_law
theorem law_in : di_law ∈ defs := by simp [defs]
def clsAt_BadRule : Stmt := (match top 2 with | .ClassDef _ _ _ b _ _ _ _ _ _ _ => b.getD 0 (.Pass ⟨0, 0, 0, 0⟩) | s => s)
def in_BadRule : InitIn := ⟨(errRow "BadRule").getD ⟨"", "", none⟩, "place", ⟨("BadRule", some "__init__"), "__init__", "BadRule.__init__", defArgs clsAt_BadRule, defBody clsAt_BadRule, defScope clsAt_BadRule, [], []⟩⟩
theorem iok_BadRule : in_BadRule.Ok := ⟨rfl, rfl, rfl, rfl, rfl, ⟨rfl, rfl, rfl, by decide +kernel, rfl, by decide +kernel, by decide +kernel⟩, by decide +kernel, rfl, ⟨by decide, by decide⟩, fun _ _ _ _ _ _ us hl => match us, hl with | [_, _], _ => rfl⟩
def clsAt_BadState : Stmt := (match top 3 with | .ClassDef _ _ _ b _ _ _ _ _ _ _ => b.getD 0 (.Pass ⟨0, 0, 0, 0⟩) | s => s)
def in_BadState : InitIn := ⟨(errRow "BadState").getD ⟨"", "", none⟩, "place", ⟨("BadState", some "__init__"), "__init__", "BadState.__init__", defArgs clsAt_BadState, defBody clsAt_BadState, defScope clsAt_BadState, [], []⟩⟩
theorem iok_BadState : in_BadState.Ok := ⟨rfl, rfl, rfl, rfl, rfl, ⟨rfl, rfl, rfl, by decide +kernel, rfl, by decide +kernel, by decide +kernel⟩, by decide +kernel, rfl, ⟨by decide, by decide⟩, fun _ _ _ _ _ _ us hl => match us, hl with | [_, _], _ => rfl⟩
def clsAt_BadPlay : Stmt := (match top 4 with | .ClassDef _ _ _ b _ _ _ _ _ _ _ => b.getD 0 (.Pass ⟨0, 0, 0, 0⟩) | s => s)
def in_BadPlay : InitIn := ⟨(errRow "BadPlay").getD ⟨"", "", none⟩, "place", ⟨("BadPlay", some "__init__"), "__init__", "BadPlay.__init__", defArgs clsAt_BadPlay, defBody clsAt_BadPlay, defScope clsAt_BadPlay, [], []⟩⟩
theorem iok_BadPlay : in_BadPlay.Ok := ⟨rfl, rfl, rfl, rfl, rfl, ⟨rfl, rfl, rfl, by decide +kernel, rfl, by decide +kernel, by decide +kernel⟩, by decide +kernel, rfl, ⟨by decide, by decide⟩, fun _ _ _ _ _ _ us hl => match us, hl with | [_, _], _ => rfl⟩
def clsAt_BadPaper : Stmt := (match top 5 with | .ClassDef _ _ _ b _ _ _ _ _ _ _ => b.getD 0 (.Pass ⟨0, 0, 0, 0⟩) | s => s)
def in_BadPaper : InitIn := ⟨(errRow "BadPaper").getD ⟨"", "", none⟩, "place", ⟨("BadPaper", some "__init__"), "__init__", "BadPaper.__init__", defArgs clsAt_BadPaper, defBody clsAt_BadPaper, defScope clsAt_BadPaper, [], []⟩⟩
theorem iok_BadPaper : in_BadPaper.Ok := ⟨rfl, rfl, rfl, rfl, rfl, ⟨rfl, rfl, rfl, by decide +kernel, rfl, by decide +kernel, by decide +kernel⟩, by decide +kernel, rfl, ⟨by decide, by decide⟩, fun _ _ _ _ _ _ us hl => match us, hl with | [_, _], _ => rfl⟩
def clsAt_BadLog : Stmt := (match top 6 with | .ClassDef _ _ _ b _ _ _ _ _ _ _ => b.getD 0 (.Pass ⟨0, 0, 0, 0⟩) | s => s)
def in_BadLog : InitIn := ⟨(errRow "BadLog").getD ⟨"", "", none⟩, "place", ⟨("BadLog", some "__init__"), "__init__", "BadLog.__init__", defArgs clsAt_BadLog, defBody clsAt_BadLog, defScope clsAt_BadLog, [], []⟩⟩
theorem iok_BadLog : in_BadLog.Ok := ⟨rfl, rfl, rfl, rfl, rfl, ⟨rfl, rfl, rfl, by decide +kernel, rfl, by decide +kernel, by decide +kernel⟩, by decide +kernel, rfl, ⟨by decide, by decide⟩, fun _ _ _ _ _ _ us hl => match us, hl with | [_, _], _ => rfl⟩
def clsAt_BadText : Stmt := (match top 7 with | .ClassDef _ _ _ b _ _ _ _ _ _ _ => b.getD 0 (.Pass ⟨0, 0, 0, 0⟩) | s => s)
def in_BadText : InitIn := ⟨(errRow "BadText").getD ⟨"", "", none⟩, "place", ⟨("BadText", some "__init__"), "__init__", "BadText.__init__", defArgs clsAt_BadText, defBody clsAt_BadText, defScope clsAt_BadText, [], []⟩⟩
theorem iok_BadText : in_BadText.Ok := ⟨rfl, rfl, rfl, rfl, rfl, ⟨rfl, rfl, rfl, by decide +kernel, rfl, by decide +kernel, by decide +kernel⟩, by decide +kernel, rfl, ⟨by decide, by decide⟩, fun _ _ _ _ _ _ us hl => match us, hl with | [_, _], _ => rfl⟩
def clsAt_BadEvent : Stmt := (match top 8 with | .ClassDef _ _ _ b _ _ _ _ _ _ _ => b.getD 0 (.Pass ⟨0, 0, 0, 0⟩) | s => s)
def in_BadEvent : InitIn := ⟨(errRow "BadEvent").getD ⟨"", "", none⟩, "event", ⟨("BadEvent", some "__init__"), "__init__", "BadEvent.__init__", defArgs clsAt_BadEvent, defBody clsAt_BadEvent, defScope clsAt_BadEvent, [], []⟩⟩
theorem iok_BadEvent : in_BadEvent.Ok := ⟨rfl, rfl, rfl, rfl, rfl, ⟨rfl, rfl, rfl, by decide +kernel, rfl, by decide +kernel, by decide +kernel⟩, by decide +kernel, rfl, ⟨by decide, by decide⟩, fun _ _ _ _ _ _ us hl => match us, hl with | [_, _], _ => rfl⟩
def clsAt_BadButton : Stmt := (match top 9 with | .ClassDef _ _ _ b _ _ _ _ _ _ _ => b.getD 0 (.Pass ⟨0, 0, 0, 0⟩) | s => s)
def in_BadButton : InitIn := ⟨(errRow "BadButton").getD ⟨"", "", none⟩, "button", ⟨("BadButton", some "__init__"), "__init__", "BadButton.__init__", defArgs clsAt_BadButton, defBody clsAt_BadButton, defScope clsAt_BadButton, [], []⟩⟩
theorem iok_BadButton : in_BadButton.Ok := ⟨rfl, rfl, rfl, rfl, rfl, ⟨rfl, rfl, rfl, by decide +kernel, rfl, by decide +kernel, by decide +kernel⟩, by decide +kernel, rfl, ⟨by decide, by decide⟩, fun _ _ _ _ _ _ us hl => match us, hl with | [_, _], _ => rfl⟩
def clsAt_BadMeasure : Stmt := (match top 10 with | .ClassDef _ _ _ b _ _ _ _ _ _ _ => b.getD 0 (.Pass ⟨0, 0, 0, 0⟩) | s => s)
def in_BadMeasure : InitIn := ⟨(errRow "BadMeasure").getD ⟨"", "", none⟩, "measure", ⟨("BadMeasure", some "__init__"), "__init__", "BadMeasure.__init__", defArgs clsAt_BadMeasure, defBody clsAt_BadMeasure, defScope clsAt_BadMeasure, [], []⟩⟩
theorem iok_BadMeasure : in_BadMeasure.Ok := ⟨rfl, rfl, rfl, rfl, rfl, ⟨rfl, rfl, rfl, by decide +kernel, rfl, by decide +kernel, by decide +kernel⟩, by decide +kernel, rfl, ⟨by decide, by decide⟩, fun _ _ _ _ _ _ us hl => match us, hl with | [_, _], _ => rfl⟩
def clsAt_TooMany : Stmt := (match top 12 with | .ClassDef _ _ _ b _ _ _ _ _ _ _ => b.getD 0 (.Pass ⟨0, 0, 0, 0⟩) | s => s)
def in_TooMany : InitIn := ⟨(errRow "TooMany").getD ⟨"", "", none⟩, "most", ⟨("TooMany", some "__init__"), "__init__", "TooMany.__init__", defArgs clsAt_TooMany, defBody clsAt_TooMany, defScope clsAt_TooMany, [], []⟩⟩
theorem iok_TooMany : in_TooMany.Ok := ⟨rfl, rfl, rfl, rfl, rfl, ⟨rfl, rfl, rfl, by decide +kernel, rfl, by decide +kernel, by decide +kernel⟩, by decide +kernel, rfl, ⟨by decide, by decide⟩, fun _ _ _ _ _ _ us hl => match us, hl with | [_, _], _ => rfl⟩
def clsAt_Missing : Stmt := (match top 14 with | .ClassDef _ _ _ b _ _ _ _ _ _ _ => b.getD 0 (.Pass ⟨0, 0, 0, 0⟩) | s => s)
def in_Missing : InitIn := ⟨(errRow "Missing").getD ⟨"", "", none⟩, "number", ⟨("Missing", some "__init__"), "__init__", "Missing.__init__", defArgs clsAt_Missing, defBody clsAt_Missing, defScope clsAt_Missing, [], []⟩⟩
theorem iok_Missing : in_Missing.Ok := ⟨rfl, rfl, rfl, rfl, rfl, ⟨rfl, rfl, rfl, by decide +kernel, rfl, by decide +kernel, by decide +kernel⟩, by decide +kernel, rfl, ⟨by decide, by decide⟩, fun _ _ _ _ _ _ us hl => match us, hl with | [_, _], _ => rfl⟩
def inits : List InitIn := [in_BadRule, in_BadState, in_BadPlay, in_BadPaper, in_BadLog, in_BadText, in_BadEvent, in_BadButton, in_BadMeasure, in_TooMany, in_Missing]
theorem ioks : ∀ x ∈ inits, x.Ok := by
  intro x hx
  simp only [inits, List.mem_cons, List.not_mem_nil, or_false] at hx
  rcases hx with rfl | rfl | rfl | rfl | rfl | rfl | rfl | rfl | rfl | rfl | rfl
  · exact iok_BadRule
  · exact iok_BadState
  · exact iok_BadPlay
  · exact iok_BadPaper
  · exact iok_BadLog
  · exact iok_BadText
  · exact iok_BadEvent
  · exact iok_BadButton
  · exact iok_BadMeasure
  · exact iok_TooMany
  · exact iok_Missing
/-! the head -/
def loose0 : List Str := ["MOST_FLOORS", "MOST_BUTTONS", "MOST_SMALL", "MOST_OPEN", "IN", "UP", "DOWN", "NONE", "SWEEP", "NEAREST", "ELDEST", "ALL"]
def loose1 : List Str := ["WAY", "END", "STAY", "HOME", "PICKS", "TAKES", "RESTS", "START", "HEADINGS", "PRESS", "STEP", "WAYS"]
def loose2 : List Str := ["LiftError", "BadRule", "BadState", "BadPlay", "BadPaper", "BadLog", "BadText", "BadEvent", "BadButton", "BadMeasure", "BadQuestion", "TooMany"]
def loose3 : List Str := ["MissError", "Missing", "is_whole", "is_word", "is_button", "are_rising", "are_buttons", "rule_fault", "need_rule", "is_small_in", "need_small", "is_of"]
def loose4 : List Str := ["are_wants", "state_fault", "need_state", "free_by", "is_event_of", "towards", "nearest_floor", "heading_in", "told_by", "pressed", "closing", "stepped"]
def loose5 : List Str := ["done", "step", "events_in", "reached_in", "journey_in", "rests", "journey", "steps_left", "longest", "_law_begun", "_law_draw", "_law_of"]
def loose6 : List Str := ["_law_buttons", "_law_rule", "_law_led", "_law_is_free", "_law_step", "_law_done", "_law_said", "_law_state", "_law_way"]
def loose : List Str := loose0 ++ loose1 ++ loose2 ++ loose3 ++ loose4 ++ loose5 ++ loose6
abbrev R : PySem.W.OpenRow := PySem.W.OpenLaw.row PySem.Challenge.rw_liftcalls_k11_whole_journeys
abbrev zo : ZO := (faOf defs G, fdOf defs inits, tsOf G, tfOf G)
abbrev hk : PySem.W.Hook := hookZ 4 zo (exOf G)
def ob (s : PySem.W.SharedT) : He.AlX := lookZ (addrs (HandSHeadRun.getT s) 4) zo (exOf G) (HandSHeadRun.getT s)
theorem ob_eq (s : PySem.W.SharedT) : ob s = hk.obs s.abs := lookZ_eq (HandSHeadRun.getT_eq s)
theorem runT (w : World) : HandSHeadRun.RunEq R (PySem.W.view R.prog [88]) hk ob 30000 loose (setRow w true) := by intro os; kernel_rfl
theorem runF (w : World) : HandSHeadRun.RunEq R (PySem.W.view R.prog [88]) hk ob 30000 loose (setRow w false) := by intro os; kernel_rfl
theorem run (w : World) : HandSHeadRun.RunEq R (PySem.W.view R.prog [88]) hk ob 30000 loose w := by_row (P := fun w => HandSHeadRun.RunEq R (PySem.W.view R.prog [88]) hk ob 30000 loose w) (fun w b => match b with | true => runT w | false => runF w) w
end L2.LC.liftcalls_k11_whole_journeys

/-! LS: running the core by hand: results as wanted, loops, comprehensions. -/
namespace L2.LC
open PySem

/-- ends well, and so -/
def Wp {α : Type} (r : R α) (P : α → Hs → Prop) : Prop := match r with
  | .ok a h => P a h
  | _ => False
@[simp] theorem Wp_ok {α : Type} (a : α) (h : Hs) (P : α → Hs → Prop) : Wp (.ok a h) P = P a h := rfl
@[simp] theorem Wp_no {α : Type} (P : α → Hs → Prop) : Wp (.no : R α) P = False := rfl
theorem Wp_bind {α β : Type} (r : R α) (f : α → Hs → R β) (P : β → Hs → Prop) : Wp (r.bind f) P = Wp r (fun a h => Wp (f a h) P) := by
  cases r <;> rfl
theorem Wp.mono {α : Type} {r : R α} {P Q : α → Hs → Prop} (h : Wp r P) (k : ∀ a s, P a s → Q a s) : Wp r Q := by
  cases r with
  | ok a s => exact k a s h
  | ex x s => exact h
  | no => exact h
theorem Wp.eq {α : Type} {r : R α} {a : α} {h : Hs} (w : Wp r fun b s => b = a ∧ s = h) : r = .ok a h := by
  cases r with
  | ok b s => obtain ⟨rfl, rfl⟩ := w; rfl
  | ex x s => exact w.elim
  | no => exact w.elim
theorem Wp.of {α : Type} {r : R α} {a : α} {h : Hs} {P : α → Hs → Prop} (e : r = .ok a h) (p : P a h) : Wp r P := by rw [e]; exact p
theorem Wp.get {α : Type} {r : R α} {P : α → Hs → Prop} (w : Wp r P) : ∃ a h, r = .ok a h ∧ P a h := by
  cases r with
  | ok a s => exact ⟨a, s, rfl, w⟩
  | ex x s => exact w.elim
  | no => exact w.elim

/-! ### calls -/
/-- a call with data alone that gives data -/
theorem evF_pure {G : List FD} {k f : Nat} {fd : FD} {args : List D} {p : PyData} (hf : G[f]? = some fd) (ha : (dats args).isSome = true) (hn : args.length = fd.np)
    (w : Wp (evSs (evF G k) fd.body (args.map some ++ List.replicate fd.nl none) []) fun fl _ => match fl with | .nx _ => p = .none | .rt d => d = .dat p | _ => False) (h : Hs) : evF G (k + 1) f args h = .ok (.dat p) h := by
  obtain ⟨fl, s, e, q⟩ := w.get
  simp only [evF, hf, callF]
  obtain ⟨ps, hps⟩ := Option.isSome_iff_exists.mp ha
  simp only [hps, runF, hn, if_true, e, R.bind_ok]
  cases fl with
  | nx ρ => subst q; rfl
  | rt d => subst q; rfl
  | bk ρ => exact q.elim
  | ct ρ => exact q.elim
theorem evF_pureD {G : List FD} {k f : Nat} {fd : FD} {args : List D} {kvs : List (PyData × PyData)} (hf : G[f]? = some fd) (ha : (dats args).isSome = true) (hn : args.length = fd.np)
    (w : Wp (evSs (evF G k) fd.body (args.map some ++ List.replicate fd.nl none) []) fun fl _ => match fl with | .rt d => d = .dct kvs | _ => False) (h : Hs) : evF G (k + 1) f args h = .ok (.dct kvs) h := by
  obtain ⟨fl, s, e, q⟩ := w.get
  simp only [evF, hf, callF]
  obtain ⟨ps, hps⟩ := Option.isSome_iff_exists.mp ha
  simp only [hps, runF, hn, if_true, e, R.bind_ok]
  cases fl with
  | nx ρ => exact q.elim
  | rt d => subst q; rfl
  | bk ρ => exact q.elim
  | ct ρ => exact q.elim
/-- a call with places -/
theorem evF_wp {G : List FD} {k f : Nat} {fd : FD} {args : List D} {h : Hs} {P : D → Hs → Prop} (hf : G[f]? = some fd) (ha : dats args = none) (hn : args.length = fd.np)
    (w : Wp (evSs (evF G k) fd.body (args.map some ++ List.replicate fd.nl none) h) fun fl s => match fl with | .nx _ => P dN s | .rt d => P d s | _ => False) : Wp (evF G (k + 1) f args h) P := by
  obtain ⟨fl, s, e, q⟩ := w.get
  simp only [evF, hf, callF, ha, runF, hn, if_true, e, R.bind_ok]
  cases fl with
  | nx ρ => exact q
  | rt d => exact q
  | bk ρ => exact q.elim
  | ct ρ => exact q.elim

/-! ### loops -/
theorem forL_wp {α : Type} {bnd : D → En → Option En} {body : En → Hs → R Fl} {P : Fl → Hs → Prop} (g : α → D) (I : List α → En → Hs → Prop)
    (step : ∀ x rest ρ h, I (x :: rest) ρ h → ∃ ρ1, bnd (g x) ρ = some ρ1 ∧ Wp (body ρ1 h) fun fl h' => match fl with | .nx ρ2 => I rest ρ2 h' | .ct ρ2 => I rest ρ2 h' | .bk ρ2 => P (.nx ρ2) h' | .rt v => P (.rt v) h')
    (fin : ∀ ρ h, I [] ρ h → P (.nx ρ) h) : ∀ (xs : List α) (ρ : En) (h : Hs), I xs ρ h → Wp (forL bnd body (xs.map g) ρ h) P
  | [], ρ, h, i => fin ρ h i
  | x :: xs, ρ, h, i => by
    obtain ⟨ρ1, e, w⟩ := step x xs ρ h i
    simp only [List.map_cons, forL, e, Wp_bind]
    refine w.mono fun fl s q => ?_
    cases fl with
    | nx ρ2 => exact forL_wp g I step fin xs ρ2 s q
    | ct ρ2 => exact forL_wp g I step fin xs ρ2 s q
    | bk ρ2 => exact q
    | rt v => exact q
theorem whlL_wp {tst : En → Hs → R Bool} {body : En → Hs → R Fl} {P : Fl → Hs → Prop} (I : Nat → En → Hs → Prop)
    (step : ∀ n ρ h, I n ρ h → Wp (tst ρ h) fun t h1 => if t then 0 < n ∧ Wp (body ρ h1) fun fl h' => (match fl with | .nx ρ2 => ∃ m, m < n ∧ I m ρ2 h' | .ct ρ2 => ∃ m, m < n ∧ I m ρ2 h' | .bk ρ2 => P (.nx ρ2) h' | .rt v => P (.rt v) h') else P (.nx ρ) h1) : ∀ (N n : Nat), n < N → ∀ (ρ : En) (h : Hs), I n ρ h → Wp (whlL tst body N ρ h) P
  | 0, n, hn, _, _, _ => by omega
  | N + 1, n, hn, ρ, h, i => by
    simp only [whlL, Wp_bind]
    refine (step n ρ h i).mono fun t h1 q => ?_
    cases t with
    | false => exact q
    | true =>
      simp only [if_true, Wp_bind] at q ⊢
      refine q.2.mono fun fl s z => ?_
      cases fl with
      | nx ρ2 => obtain ⟨m, hm, z⟩ := z; exact whlL_wp I step N m (by omega) ρ2 s z
      | ct ρ2 => obtain ⟨m, hm, z⟩ := z; exact whlL_wp I step N m (by omega) ρ2 s z
      | bk ρ2 => exact z
      | rt v => exact z
/-- a comprehension that changes nothing -/
theorem compL_eq {α : Type} {bnd : D → Option En} {tst : En → Hs → R Bool} {elt : En → Hs → R D} (g : α → D) (t : α → Bool) (e : α → PyData) (h : Hs) : ∀ (xs : List α), (∀ x ∈ xs, ∃ ρ, bnd (g x) = some ρ ∧ tst ρ h = .ok (t x) h ∧ (t x = true → elt ρ h = .ok (.dat (e x)) h)) → compL bnd tst elt (xs.map g) h = .ok ((xs.filter t).map e) h
  | [], _ => rfl
  | x :: xs, H => by
    obtain ⟨ρ, h1, h2, h3⟩ := H x (by simp)
    have ih := compL_eq g t e h xs fun y hy => H y (by simp [hy])
    simp only [List.map_cons, compL, h1, h2]
    cases ht : t x with
    | false => simp [ht, ih]
    | true => simp [ht, h3 ht, ih]
theorem compL_map {α : Type} {bnd : D → Option En} {tst : En → Hs → R Bool} {elt : En → Hs → R D} (g : α → D) (e : α → PyData) (h : Hs) (xs : List α) (H : ∀ x ∈ xs, ∃ ρ, bnd (g x) = some ρ ∧ tst ρ h = .ok true h ∧ elt ρ h = .ok (.dat (e x)) h) : compL bnd tst elt (xs.map g) h = .ok (xs.map e) h := by
  rw [compL_eq g (fun _ => true) e h xs fun x hx => let ⟨ρ, a, b, c⟩ := H x hx; ⟨ρ, a, b, fun _ => c⟩]
  rw [List.filter_eq_self.mpr fun _ _ => rfl]
end L2.LC

/-! LS: rules, states, events in plain Lean, and as data. -/
namespace L2.LC
open PySem

inductive Wd where | inn | up | down | none
  deriving DecidableEq
inductive Pk where | sweep | nearest | eldest
  deriving DecidableEq
inductive Tk where | all | way | fin
  deriving DecidableEq
inductive Re where | stay | home
  deriving DecidableEq
structure Bt where
  w : Wd
  f : Int
  deriving DecidableEq
structure Ru where
  fl : Int
  bs : List Bt
  pk : Pk
  tk : Tk
  re : Re
  hold : Bool
  quick : Bool
  op : Int
  deriving DecidableEq
structure Sta where
  fl : Int
  hd : Wd
  door : Int
  ws : List Bt
  deriving DecidableEq
structure Tl where
  fl : Int
  sv : List Bt
  deriving DecidableEq
inductive Evn where | step | press (b : Bt)
  deriving DecidableEq

def Wd.s : Wd → Str | .inn => s_in | .up => s_up | .down => s_down | .none => s_none
def Pk.s : Pk → Str | .sweep => s_sweep | .nearest => s_nearest | .eldest => s_eldest
def Tk.s : Tk → Str | .all => s_all | .way => s_way | .fin => s_end
def Re.s : Re → Str | .stay => s_stay | .home => s_home
def Bt.e (b : Bt) : PyData := .tuple [.str b.w.s, .int b.f]
def btsE (bs : List Bt) : List PyData := bs.map Bt.e
def Ru.e (r : Ru) : PyData := .tuple [.int r.fl, .tuple (r.bs.map Bt.e), .str r.pk.s, .str r.tk.s, .str r.re.s, .bool r.hold, .bool r.quick, .int r.op]
def Sta.e (s : Sta) : PyData := .tuple [.int s.fl, .str s.hd.s, .int s.door, .tuple (s.ws.map Bt.e)]
def Tl.e (t : Tl) : PyData := .tuple [.int t.fl, .tuple (t.sv.map Bt.e)]
def Evn.e : Evn → PyData
  | .step => .tuple [.str s_step]
  | .press b => .tuple [.str s_press, b.e]

@[simp] theorem Wd.beq (a b : Wd) : (a.s == b.s) = decide (a = b) := by cases a <;> cases b <;> decide
@[simp] theorem Pk.beq (a b : Pk) : (a.s == b.s) = decide (a = b) := by cases a <;> cases b <;> decide
@[simp] theorem Tk.beq (a b : Tk) : (a.s == b.s) = decide (a = b) := by cases a <;> cases b <;> decide
@[simp] theorem Re.beq (a b : Re) : (a.s == b.s) = decide (a = b) := by cases a <;> cases b <;> decide
@[simp] theorem Wd.b_in (a : Wd) : (a.s == s_in) = decide (a = .inn) := Wd.beq a .inn
@[simp] theorem Wd.b_up (a : Wd) : (a.s == s_up) = decide (a = .up) := Wd.beq a .up
@[simp] theorem Wd.b_down (a : Wd) : (a.s == s_down) = decide (a = .down) := Wd.beq a .down
@[simp] theorem Wd.b_none (a : Wd) : (a.s == s_none) = decide (a = .none) := Wd.beq a .none
@[simp] theorem Pk.b_s (a : Pk) : (a.s == s_sweep) = decide (a = .sweep) := Pk.beq a .sweep
@[simp] theorem Pk.b_n (a : Pk) : (a.s == s_nearest) = decide (a = .nearest) := Pk.beq a .nearest
@[simp] theorem Pk.b_e (a : Pk) : (a.s == s_eldest) = decide (a = .eldest) := Pk.beq a .eldest
@[simp] theorem Tk.b_a (a : Tk) : (a.s == s_all) = decide (a = .all) := Tk.beq a .all
@[simp] theorem Tk.b_w (a : Tk) : (a.s == s_way) = decide (a = .way) := Tk.beq a .way
@[simp] theorem Tk.b_f (a : Tk) : (a.s == s_end) = decide (a = .fin) := Tk.beq a .fin
@[simp] theorem Re.b_s (a : Re) : (a.s == s_stay) = decide (a = .stay) := Re.beq a .stay
@[simp] theorem Re.b_h (a : Re) : (a.s == s_home) = decide (a = .home) := Re.beq a .home
theorem ibeq (a b : Int) : (a == b) = decide (a = b) := rfl

/-! ### equality -/
@[simp] theorem Bt.eqv (a b : Bt) : PyData.eqv a.e b.e = decide (a = b) := by
  cases a; cases b
  simp [Bt.e, PyData.eqv, PyData.eqvAll, Bool.and_comm, ibeq]
theorem eqvAll_map {α : Type} [DecidableEq α] (e : α → PyData) (he : ∀ a b, PyData.eqv (e a) (e b) = decide (a = b)) : ∀ xs ys : List α, PyData.eqvAll (xs.map e) (ys.map e) = decide (xs = ys)
  | [], [] => by simp [PyData.eqvAll]
  | [], _ :: _ => by simp [PyData.eqvAll]
  | _ :: _, [] => by simp [PyData.eqvAll]
  | x :: xs, y :: ys => by simp [PyData.eqvAll, he, eqvAll_map e he xs ys]
@[simp] theorem Bts.eqv (a b : List Bt) : PyData.eqvAll (a.map Bt.e) (b.map Bt.e) = decide (a = b) := eqvAll_map _ Bt.eqv a b
@[simp] theorem Sta.eqv (a b : Sta) : PyData.eqv a.e b.e = decide (a = b) := by
  cases a; cases b
  simp [Sta.e, PyData.eqv, PyData.eqvAll, ibeq]
@[simp] theorem Tl.eqv (a b : Tl) : PyData.eqv a.e b.e = decide (a = b) := by
  cases a; cases b
  simp [Tl.e, PyData.eqv, PyData.eqvAll, ibeq]
@[simp] theorem Evn.eqv (a b : Evn) : PyData.eqv a.e b.e = decide (a = b) := by
  cases a <;> cases b <;> simp [Evn.e, PyData.eqv, PyData.eqvAll] <;> decide
end L2.LC

/-! LS: the evaluator's rules as rewrites. -/
namespace L2.LC
open PySem
/-- loops and comprehensions, closed -/
def forC (C : Calls) (t : Tg) (b : CSs) (ds : List D) (ρ : En) (h : Hs) : R Fl := forL (fun d ρ => bindT t d ρ) (fun ρ h => evSs C b ρ h) ds ρ h
def whlC (C : Calls) (c : CE) (b : CSs) (n : Nat) (ρ : En) (h : Hs) : R Fl := whlL (fun ρ h => asB (evE C c ρ h)) (fun ρ h => evSs C b ρ h) n ρ h
def compC (C : Calls) (e : CE) (t : Tg) (c : CO) (ρ : En) (ds : List D) (h : Hs) : R (List PyData) := compL (fun d => bindT t d ρ) (fun ρ' h' => evT C c ρ' h') (fun ρ' h' => evE C e ρ' h') ds h
/-! what is left to do, by names (a rewrite does not look into it) -/
def wk {α β : Type} (f : α → Hs → R β) (P : β → Hs → Prop) (a : α) (h : Hs) : Prop := Wp (f a h) P
@[simp] theorem wk_app {α β : Type} (f : α → Hs → R β) (P : β → Hs → Prop) (a : α) (h : Hs) : wk f P a h = Wp (f a h) P := rfl
@[simp] theorem Wp_bind' {α β : Type} (r : R α) (f : α → Hs → R β) (P : β → Hs → Prop) : Wp (r.bind f) P = Wp r (wk f P) := Wp_bind r f P
def kB  (d : D) (h : Hs) : R Bool := R.of (asBool d) h
@[simp] theorem kB_app  (d : D) (h : Hs) : kB  d h = R.of (asBool d) h := rfl
def kTup  (ds : List D) (h : Hs) : R D := R.of ((dats ds).map fun ps => D.dat (.tuple ps)) h
@[simp] theorem kTup_app  (ds : List D) (h : Hs) : kTup  ds h = R.of ((dats ds).map fun ps => D.dat (.tuple ps)) h := rfl
def kLst  (ds : List D) (h : Hs) : R D := R.of ((dats ds).map fun ps => D.dat (.list ps)) h
@[simp] theorem kLst_app  (ds : List D) (h : Hs) : kLst  ds h = R.of ((dats ds).map fun ps => D.dat (.list ps)) h := rfl
def kMk  (ds : List D) (h : Hs) : R D := .ok (.ref h.length) (h ++ [.lst ds])
@[simp] theorem kMk_app  (ds : List D) (h : Hs) : kMk  ds h = .ok (.ref h.length) (h ++ [.lst ds]) := rfl
def kBin2 (o : BOp) (x : D) (y : D) (h : Hs) : R D := R.of (binD o x y) h
@[simp] theorem kBin2_app (o : BOp) (x : D) (y : D) (h : Hs) : kBin2 o x y h = R.of (binD o x y) h := rfl
def kBin1 (C : Calls) (o : BOp) (b : CE) (ρ : En) (x : D) (h : Hs) : R D := (evE C b ρ h).bind (kBin2 o x)
@[simp] theorem kBin1_app (C : Calls) (o : BOp) (b : CE) (ρ : En) (x : D) (h : Hs) : kBin1 C o b ρ x h = (evE C b ρ h).bind (kBin2 o x) := rfl
def kNeg  (x : D) (h : Hs) : R D := match x with | .dat (.int i) => .ok (D.dat (.int (-i))) h | _ => .no
@[simp] theorem kNeg_app  (x : D) (h : Hs) : kNeg  x h = match x with | .dat (.int i) => .ok (D.dat (.int (-i))) h | _ => .no := rfl
def kNt  (t : Bool) (h : Hs) : R D := .ok (D.dat (.bool (!t))) h
@[simp] theorem kNt_app  (t : Bool) (h : Hs) : kNt  t h = .ok (D.dat (.bool (!t))) h := rfl
def kAnd (C : Calls) (b : CE) (ρ : En) (t : Bool) (h : Hs) : R D := if t then evE C b ρ h else .ok (D.dat (.bool false)) h
@[simp] theorem kAnd_app (C : Calls) (b : CE) (ρ : En) (t : Bool) (h : Hs) : kAnd C b ρ t h = if t then evE C b ρ h else .ok (D.dat (.bool false)) h := rfl
def kOr (C : Calls) (b : CE) (ρ : En) (t : Bool) (h : Hs) : R D := if t then .ok (D.dat (.bool true)) h else evE C b ρ h
@[simp] theorem kOr_app (C : Calls) (b : CE) (ρ : En) (t : Bool) (h : Hs) : kOr C b ρ t h = if t then .ok (D.dat (.bool true)) h else evE C b ρ h := rfl
def kCmp2 (o : COp) (x : D) (y : D) (h : Hs) : R D := R.of ((cmpD h o x y).map fun b => D.dat (.bool b)) h
@[simp] theorem kCmp2_app (o : COp) (x : D) (y : D) (h : Hs) : kCmp2 o x y h = R.of ((cmpD h o x y).map fun b => D.dat (.bool b)) h := rfl
def kCmp1 (C : Calls) (o : COp) (b : CE) (ρ : En) (x : D) (h : Hs) : R D := (evE C b ρ h).bind (kCmp2 o x)
@[simp] theorem kCmp1_app (C : Calls) (o : COp) (b : CE) (ρ : En) (x : D) (h : Hs) : kCmp1 C o b ρ x h = (evE C b ρ h).bind (kCmp2 o x) := rfl
def kChn3 (C : Calls) (o : COp) (c : CE) (ρ : En) (y : D) (t : Bool) (h : Hs) : R D := if t then (evE C c ρ h).bind (kCmp2 o y) else .ok (D.dat (.bool false)) h
@[simp] theorem kChn3_app (C : Calls) (o : COp) (c : CE) (ρ : En) (y : D) (t : Bool) (h : Hs) : kChn3 C o c ρ y t h = if t then (evE C c ρ h).bind (kCmp2 o y) else .ok (D.dat (.bool false)) h := rfl
def kChn2 (C : Calls) (o o2 : COp) (c : CE) (ρ : En) (x : D) (y : D) (h : Hs) : R D := (R.of (cmpD h o x y) h).bind (kChn3 C o2 c ρ y)
@[simp] theorem kChn2_app (C : Calls) (o o2 : COp) (c : CE) (ρ : En) (x : D) (y : D) (h : Hs) : kChn2 C o o2 c ρ x y h = (R.of (cmpD h o x y) h).bind (kChn3 C o2 c ρ y) := rfl
def kChn1 (C : Calls) (o o2 : COp) (b c : CE) (ρ : En) (x : D) (h : Hs) : R D := (evE C b ρ h).bind (kChn2 C o o2 c ρ x)
@[simp] theorem kChn1_app (C : Calls) (o o2 : COp) (b c : CE) (ρ : En) (x : D) (h : Hs) : kChn1 C o o2 b c ρ x h = (evE C b ρ h).bind (kChn2 C o o2 c ρ x) := rfl
def kIte (C : Calls) (a b : CE) (ρ : En) (t : Bool) (h : Hs) : R D := if t then evE C a ρ h else evE C b ρ h
@[simp] theorem kIte_app (C : Calls) (a b : CE) (ρ : En) (t : Bool) (h : Hs) : kIte C a b ρ t h = if t then evE C a ρ h else evE C b ρ h := rfl
def kCall (C : Calls) (f : Nat) (ds : List D) (h : Hs) : R D := C f ds h
@[simp] theorem kCall_app (C : Calls) (f : Nat) (ds : List D) (h : Hs) : kCall C f ds h = C f ds h := rfl
def kBf (b : BF) (ds : List D) (h : Hs) : R D := R.of (bfD h b ds) h
@[simp] theorem kBf_app (b : BF) (ds : List D) (h : Hs) : kBf b ds h = R.of (bfD h b ds) h := rfl
def kIsi (t : Ty) (x : D) (h : Hs) : R D := match x with | .dat p => .ok (D.dat (.bool (isP t p))) h | _ => .no
@[simp] theorem kIsi_app (t : Ty) (x : D) (h : Hs) : kIsi t x h = match x with | .dat p => .ok (D.dat (.bool (isP t p))) h | _ => .no := rfl
def kIdx2 (x : D) (y : D) (h : Hs) : R D := R.of (idxD h x y) h
@[simp] theorem kIdx2_app (x : D) (y : D) (h : Hs) : kIdx2 x y h = R.of (idxD h x y) h := rfl
def kIdx1 (C : Calls) (i : CE) (ρ : En) (x : D) (h : Hs) : R D := (evE C i ρ h).bind (kIdx2 x)
@[simp] theorem kIdx1_app (C : Calls) (i : CE) (ρ : En) (x : D) (h : Hs) : kIdx1 C i ρ x h = (evE C i ρ h).bind (kIdx2 x) := rfl
def kSlc3 (x : D) (i : Option Int) (j : Option Int) (h : Hs) : R D := match x with | .dat p => R.of ((slcP p i j).map .dat) h | _ => .no
@[simp] theorem kSlc3_app (x : D) (i : Option Int) (j : Option Int) (h : Hs) : kSlc3 x i j h = match x with | .dat p => R.of ((slcP p i j).map .dat) h | _ => .no := rfl
def kSlc2 (C : Calls) (hi : CO) (ρ : En) (x : D) (i : Option Int) (h : Hs) : R D := (evO C hi ρ h).bind (kSlc3 x i)
@[simp] theorem kSlc2_app (C : Calls) (hi : CO) (ρ : En) (x : D) (i : Option Int) (h : Hs) : kSlc2 C hi ρ x i h = (evO C hi ρ h).bind (kSlc3 x i) := rfl
def kSlc1 (C : Calls) (lo hi : CO) (ρ : En) (x : D) (h : Hs) : R D := (evO C lo ρ h).bind (kSlc2 C hi ρ x)
@[simp] theorem kSlc1_app (C : Calls) (lo hi : CO) (ρ : En) (x : D) (h : Hs) : kSlc1 C lo hi ρ x h = (evO C lo ρ h).bind (kSlc2 C hi ρ x) := rfl
def kDL  (ps : List PyData) (h : Hs) : R D := .ok (D.dat (.list ps)) h
@[simp] theorem kDL_app  (ps : List PyData) (h : Hs) : kDL  ps h = .ok (D.dat (.list ps)) h := rfl
def kComp (C : Calls) (e : CE) (t : Tg) (c : CO) (ρ : En) (ds : List D) (h : Hs) : R D := (compC C e t c ρ ds h).bind kDL
@[simp] theorem kComp_app (C : Calls) (e : CE) (t : Tg) (c : CO) (ρ : En) (ds : List D) (h : Hs) : kComp C e t c ρ ds h = (compC C e t c ρ ds h).bind kDL := rfl
def kTab (t : List (Str × PyData)) (x : D) (h : Hs) : R D := match x with | .dat (.str s) => R.of ((t.lookup s).map .dat) h | _ => .no
@[simp] theorem kTab_app (t : List (Str × PyData)) (x : D) (h : Hs) : kTab t x h = match x with | .dat (.str s) => R.of ((t.lookup s).map .dat) h | _ => .no := rfl
def kDsp (ks : List Str) (ds : List D) (h : Hs) : R D := if ds.length = ks.length then .ok (.ref h.length) (h ++ [.dic (ks.zip ds)]) else .no
@[simp] theorem kDsp_app (ks : List Str) (ds : List D) (h : Hs) : kDsp ks ds h = if ds.length = ks.length then .ok (.ref h.length) (h ++ [.dic (ks.zip ds)]) else .no := rfl
def kTb2 (x : D) (y : D) (h : Hs) : R D := match x with | .dat p => if keyOk p then .ok (.ref h.length) (h ++ [.tab [(p, y)]]) else .no | _ => .no
@[simp] theorem kTb2_app (x : D) (y : D) (h : Hs) : kTb2 x y h = match x with | .dat p => if keyOk p then .ok (.ref h.length) (h ++ [.tab [(p, y)]]) else .no | _ => .no := rfl
def kTb1 (C : Calls) (v : CE) (ρ : En) (x : D) (h : Hs) : R D := (evE C v ρ h).bind (kTb2 x)
@[simp] theorem kTb1_app (C : Calls) (v : CE) (ρ : En) (x : D) (h : Hs) : kTb1 C v ρ x h = (evE C v ρ h).bind (kTb2 x) := rfl
def kRev  (x : D) (h : Hs) : R D := match rd h x with | some (.list ps) => .ok (D.dat (.list ps.reverse)) h | _ => .no
@[simp] theorem kRev_app  (x : D) (h : Hs) : kRev  x h = match rd h x with | some (.list ps) => .ok (D.dat (.list ps.reverse)) h | _ => .no := rfl
def kPop0  (x : D) (h : Hs) : R D := match lstAt h x with | some n => popAt n none h | none => .no
@[simp] theorem kPop0_app  (x : D) (h : Hs) : kPop0  x h = match lstAt h x with | some n => popAt n none h | none => .no := rfl
def kPop2 (n : Nat) (y : D) (h : Hs) : R D := match y with | .dat (.int i) => popAt n (some i) h | _ => .no
@[simp] theorem kPop2_app (n : Nat) (y : D) (h : Hs) : kPop2 n y h = match y with | .dat (.int i) => popAt n (some i) h | _ => .no := rfl
def kPop1 (C : Calls) (i : CE) (ρ : En) (x : D) (h : Hs) : R D := match lstAt h x with | some n => (evE C i ρ h).bind (kPop2 n) | none => .no
@[simp] theorem kPop1_app (C : Calls) (i : CE) (ρ : En) (x : D) (h : Hs) : kPop1 C i ρ x h = match lstAt h x with | some n => (evE C i ρ h).bind (kPop2 n) | none => .no := rfl
def kBfm (b : BF) (ds : List D) (h : Hs) : R D := match bfD h b ds with | some (.dat (.list qs)) => .ok (.ref h.length) (h ++ [.lst (qs.map .dat)]) | _ => .no
@[simp] theorem kBfm_app (b : BF) (ds : List D) (h : Hs) : kBfm b ds h = match bfD h b ds with | some (.dat (.list qs)) => .ok (.ref h.length) (h ++ [.lst (qs.map .dat)]) | _ => .no := rfl
def kLsd (x : D) (h : Hs) : R D := match x with | .dct kvs => .ok (D.dat (.list (kvs.map (·.1)))) h | _ => .no
@[simp] theorem kLsd_app (x : D) (h : Hs) : kLsd x h = match x with | .dct kvs => .ok (D.dat (.list (kvs.map (·.1)))) h | _ => .no := rfl
def kLrg (x : D) (h : Hs) : R D := match x with | .dat (.int i) => if rngOk i then .ok (D.dat (.list ((List.range i.toNat).map fun (k : Nat) => .int k))) h else .no | _ => .no
@[simp] theorem kLrg_app (x : D) (h : Hs) : kLrg x h = match x with | .dat (.int i) => if rngOk i then .ok (D.dat (.list ((List.range i.toNat).map fun (k : Nat) => .int k))) h else .no | _ => .no := rfl
def kCons (d : D) (ds : List D) (h : Hs) : R (List D) := .ok (d :: ds) h
@[simp] theorem kCons_app (d : D) (ds : List D) (h : Hs) : kCons d ds h = .ok (d :: ds) h := rfl
def kEs (C : Calls) (es : CEs) (ρ : En) (d : D) (h : Hs) : R (List D) := (evEs C es ρ h).bind (kCons d)
@[simp] theorem kEs_app (C : Calls) (es : CEs) (ρ : En) (d : D) (h : Hs) : kEs C es ρ d h = (evEs C es ρ h).bind (kCons d) := rfl
def kO  (d : D) (h : Hs) : R (Option Int) := match d with | .dat (.int i) => .ok (some i) h | _ => .no
@[simp] theorem kO_app  (d : D) (h : Hs) : kO  d h = match d with | .dat (.int i) => .ok (some i) h | _ => .no := rfl
def seqI  (x : D) (h : Hs) : R (List D) := match x with | .dat (.list ps) => .ok (ps.map .dat) h | .dat (.tuple ps) => .ok (ps.map .dat) h | .scr ns => .ok (ns.map fun i => D.dat (.int i)) h | .dct kvs => .ok (kvs.map fun q => D.dat q.1) h | _ => .no
@[simp] theorem seqI_app  (x : D) (h : Hs) : seqI  x h = match x with | .dat (.list ps) => .ok (ps.map .dat) h | .dat (.tuple ps) => .ok (ps.map .dat) h | .scr ns => .ok (ns.map fun i => D.dat (.int i)) h | .dct kvs => .ok (kvs.map fun q => D.dat q.1) h | _ => .no := rfl
def kRng1  (x : D) (h : Hs) : R (List D) := match x with | .dat (.int i) => if rngOk i then .ok (rngL 0 i) h else .no | _ => .no
@[simp] theorem kRng1_app  (x : D) (h : Hs) : kRng1  x h = match x with | .dat (.int i) => if rngOk i then .ok (rngL 0 i) h else .no | _ => .no := rfl
def kRng3 (x : D) (y : D) (h : Hs) : R (List D) := match x, y with | .dat (.int i), .dat (.int j) => if rngOk i && rngOk j then .ok (rngL i j) h else .no | _, _ => .no
@[simp] theorem kRng3_app (x : D) (y : D) (h : Hs) : kRng3 x y h = match x, y with | .dat (.int i), .dat (.int j) => if rngOk i && rngOk j then .ok (rngL i j) h else .no | _, _ => .no := rfl
def kRng2 (C : Calls) (b : CE) (ρ : En) (x : D) (h : Hs) : R (List D) := (evE C b ρ h).bind (kRng3 x)
@[simp] theorem kRng2_app (C : Calls) (b : CE) (ρ : En) (x : D) (h : Hs) : kRng2 C b ρ x h = (evE C b ρ h).bind (kRng3 x) := rfl
def enumI  (x : D) (h : Hs) : R (List D) := match x with | .dat (.list ps) => .ok (ps.mapIdx fun i p => D.dat (.tuple [.int i, p])) h | .dat (.tuple ps) => .ok (ps.mapIdx fun i p => D.dat (.tuple [.int i, p])) h | _ => .no
@[simp] theorem enumI_app  (x : D) (h : Hs) : enumI  x h = match x with | .dat (.list ps) => .ok (ps.mapIdx fun i p => D.dat (.tuple [.int i, p])) h | .dat (.tuple ps) => .ok (ps.mapIdx fun i p => D.dat (.tuple [.int i, p])) h | _ => .no := rfl
def zipI (x : D) (y : D) (h : Hs) : R (List D) := match x, y with | .dat (.list ps), .dat (.list qs) => .ok ((ps.zip qs).map fun r => D.dat (.tuple [r.1, r.2])) h | .dat (.tuple ps), .dat (.tuple qs) => .ok ((ps.zip qs).map fun r => D.dat (.tuple [r.1, r.2])) h | _, _ => .no
@[simp] theorem zipI_app (x : D) (y : D) (h : Hs) : zipI x y h = match x, y with | .dat (.list ps), .dat (.list qs) => .ok ((ps.zip qs).map fun r => D.dat (.tuple [r.1, r.2])) h | .dat (.tuple ps), .dat (.tuple qs) => .ok ((ps.zip qs).map fun r => D.dat (.tuple [r.1, r.2])) h | _, _ => .no := rfl
def kZip1 (C : Calls) (b : CE) (ρ : En) (x : D) (h : Hs) : R (List D) := (evE C b ρ h).bind (zipI x)
@[simp] theorem kZip1_app (C : Calls) (b : CE) (ρ : En) (x : D) (h : Hs) : kZip1 C b ρ x h = (evE C b ρ h).bind (zipI x) := rfl
def kNx  (ρ : En) (h : Hs) : R Fl := .ok (.nx ρ) h
@[simp] theorem kNx_app  (ρ : En) (h : Hs) : kNx  ρ h = .ok (.nx ρ) h := rfl
def kSs (C : Calls) (ss : CSs) (ρ : En) (h : Hs) : R Fl := evSs C ss ρ h
@[simp] theorem kSs_app (C : Calls) (ss : CSs) (ρ : En) (h : Hs) : kSs C ss ρ h = evSs C ss ρ h := rfl
def kAsg (t : Tg) (ρ : En) (x : D) (h : Hs) : R En := R.of (bindT t x ρ) h
@[simp] theorem kAsg_app (t : Tg) (ρ : En) (x : D) (h : Hs) : kAsg t ρ x h = R.of (bindT t x ρ) h := rfl
def kPar2 (i j : Nat) (ρ : En) (x : D) (y : D) (h : Hs) : R En := .ok ((ρ.set i (some x)).set j (some y)) h
@[simp] theorem kPar2_app (i j : Nat) (ρ : En) (x : D) (y : D) (h : Hs) : kPar2 i j ρ x y h = .ok ((ρ.set i (some x)).set j (some y)) h := rfl
def kPar1 (C : Calls) (i j : Nat) (b : CE) (ρ : En) (x : D) (h : Hs) : R En := (evE C b ρ h).bind (kPar2 i j ρ x)
@[simp] theorem kPar1_app (C : Calls) (i j : Nat) (b : CE) (ρ : En) (x : D) (h : Hs) : kPar1 C i j b ρ x h = (evE C b ρ h).bind (kPar2 i j ρ x) := rfl
def kPar33 (i j l : Nat) (ρ : En) (x y : D) (z : D) (h : Hs) : R En := .ok (((ρ.set i (some x)).set j (some y)).set l (some z)) h
@[simp] theorem kPar33_app (i j l : Nat) (ρ : En) (x y : D) (z : D) (h : Hs) : kPar33 i j l ρ x y z h = .ok (((ρ.set i (some x)).set j (some y)).set l (some z)) h := rfl
def kPar32 (C : Calls) (i j l : Nat) (c : CE) (ρ : En) (x : D) (y : D) (h : Hs) : R En := (evE C c ρ h).bind (kPar33 i j l ρ x y)
@[simp] theorem kPar32_app (C : Calls) (i j l : Nat) (c : CE) (ρ : En) (x : D) (y : D) (h : Hs) : kPar32 C i j l c ρ x y h = (evE C c ρ h).bind (kPar33 i j l ρ x y) := rfl
def kPar31 (C : Calls) (i j l : Nat) (b c : CE) (ρ : En) (x : D) (h : Hs) : R En := (evE C b ρ h).bind (kPar32 C i j l c ρ x)
@[simp] theorem kPar31_app (C : Calls) (i j l : Nat) (b c : CE) (ρ : En) (x : D) (h : Hs) : kPar31 C i j l b c ρ x h = (evE C b ρ h).bind (kPar32 C i j l c ρ x) := rfl
def kPut3 (ρ : En) (z x : D) (y : D) (h : Hs) : R En := match putD h x y z with | some h4 => .ok ρ h4 | none => .no
@[simp] theorem kPut3_app (ρ : En) (z x : D) (y : D) (h : Hs) : kPut3 ρ z x y h = match putD h x y z with | some h4 => .ok ρ h4 | none => .no := rfl
def kPut2 (C : Calls) (k : CE) (ρ : En) (z : D) (x : D) (h : Hs) : R En := (evE C k ρ h).bind (kPut3 ρ z x)
@[simp] theorem kPut2_app (C : Calls) (k : CE) (ρ : En) (z : D) (x : D) (h : Hs) : kPut2 C k ρ z x h = (evE C k ρ h).bind (kPut3 ρ z x) := rfl
def kPut1 (C : Calls) (d k : CE) (ρ : En) (z : D) (h : Hs) : R En := (evE C d ρ h).bind (kPut2 C k ρ z)
@[simp] theorem kPut1_app (C : Calls) (d k : CE) (ρ : En) (z : D) (h : Hs) : kPut1 C d k ρ z h = (evE C d ρ h).bind (kPut2 C k ρ z) := rfl
def kApp2 (n : Nat) (ρ : En) (y : D) (h : Hs) : R Fl := appAt n y ρ h
@[simp] theorem kApp2_app (n : Nat) (ρ : En) (y : D) (h : Hs) : kApp2 n ρ y h = appAt n y ρ h := rfl
def kApp1 (C : Calls) (e : CE) (ρ : En) (x : D) (h : Hs) : R Fl := match lstAt h x with | some n => (evE C e ρ h).bind (kApp2 n ρ) | none => .no
@[simp] theorem kApp1_app (C : Calls) (e : CE) (ρ : En) (x : D) (h : Hs) : kApp1 C e ρ x h = match lstAt h x with | some n => (evE C e ρ h).bind (kApp2 n ρ) | none => .no := rfl
def kExt2 (n : Nat) (ρ : En) (y : D) (h : Hs) : R Fl := extAt n y ρ h
@[simp] theorem kExt2_app (n : Nat) (ρ : En) (y : D) (h : Hs) : kExt2 n ρ y h = extAt n y ρ h := rfl
def kExt1 (C : Calls) (e : CE) (ρ : En) (x : D) (h : Hs) : R Fl := match lstAt h x with | some n => (evE C e ρ h).bind (kExt2 n ρ) | none => .no
@[simp] theorem kExt1_app (C : Calls) (e : CE) (ρ : En) (x : D) (h : Hs) : kExt1 C e ρ x h = match lstAt h x with | some n => (evE C e ρ h).bind (kExt2 n ρ) | none => .no := rfl
def kRet  (x : D) (h : Hs) : R Fl := .ok (.rt x) h
@[simp] theorem kRet_app  (x : D) (h : Hs) : kRet  x h = .ok (.rt x) h := rfl
def kDrop (ρ : En) (x : D) (h : Hs) : R En := .ok ρ h
@[simp] theorem kDrop_app (ρ : En) (x : D) (h : Hs) : kDrop ρ x h = .ok ρ h := rfl
def kCond (C : Calls) (a b : CSs) (ρ : En) (t : Bool) (h : Hs) : R Fl := if t then evSs C a ρ h else evSs C b ρ h
@[simp] theorem kCond_app (C : Calls) (a b : CSs) (ρ : En) (t : Bool) (h : Hs) : kCond C a b ρ t h = if t then evSs C a ρ h else evSs C b ρ h := rfl
def kFor (C : Calls) (t : Tg) (b : CSs) (ρ : En) (ds : List D) (h : Hs) : R Fl := forC C t b ds ρ h
@[simp] theorem kFor_app (C : Calls) (t : Tg) (b : CSs) (ρ : En) (ds : List D) (h : Hs) : kFor C t b ρ ds h = forC C t b ds ρ h := rfl
/-- what follows a statement -/
def thenS (C : Calls) (ss : CSs) (fl : Fl) (h1 : Hs) : R Fl := match fl with
    | .nx ρ1 => evSs C ss ρ1 h1
    | .rt v => .ok (.rt v) h1
    | .bk ρ1 => .ok (.bk ρ1) h1
    | .ct ρ1 => .ok (.ct ρ1) h1
def kCondS (C : Calls) (a b ss : CSs) (ρ : En) (t : Bool) (h : Hs) : R Fl := if t then (evSs C a ρ h).bind (thenS C ss) else (evSs C b ρ h).bind (thenS C ss)
@[simp] theorem kCondS_app (C : Calls) (a b ss : CSs) (ρ : En) (t : Bool) (h : Hs) : kCondS C a b ss ρ t h = if t then (evSs C a ρ h).bind (thenS C ss) else (evSs C b ρ h).bind (thenS C ss) := rfl
/-- frozen -/
def frzD (x : D) (h1 : Hs) : R D := match x with
    | .ref n => match rd h1 (.ref n) with
      | some p => .ok (.dat p) (h1.set n .gone)
      | none => match tabD h1 n with
        | some kvs => .ok (.dct kvs) (h1.set n .gone)
        | none => .no
    | .dat p => .ok (.dat p) h1
    | .scr ns => .no
    | .dct kvs => .ok (.dct kvs) h1
    | .exv x => .ok (.exv x) h1
@[simp] theorem frzD_dat (p : PyData) (h : Hs) : frzD (.dat p) h = .ok (.dat p) h := rfl
@[simp] theorem asB_def (r : R D) : asB r = r.bind kB := rfl
theorem bind_eq {α β : Type} {r : R α} {f g : α → Hs → R β} (e : ∀ a h, f a h = g a h) : r.bind f = r.bind g := by cases r <;> simp [R.bind, e]
section
variable {C : Calls} {ρ : En} {h : Hs}
@[simp] theorem evE_var (i : Nat) : evE C (.var i) ρ h = (match ρ[i]? with | some (some d) => .ok d h | _ => .no) := by rw [evE] <;> rfl
@[simp] theorem evE_cst (p : PyData) : evE C (.cst p) ρ h = .ok (.dat p) h := by rw [evE]
@[simp] theorem evE_tup (es : CEs) : evE C (.tup es) ρ h = (evEs C es ρ h).bind kTup := by rw [evE]; rfl
@[simp] theorem evE_lst (es : CEs) : evE C (.lst es) ρ h = (evEs C es ρ h).bind kLst := by rw [evE]; rfl
@[simp] theorem evE_mk (es : CEs) : evE C (.mk es) ρ h = (evEs C es ρ h).bind kMk := by rw [evE]; rfl
@[simp] theorem evE_bin (o : BOp) (a b : CE) : evE C (.bin o a b) ρ h = (evE C a ρ h).bind (kBin1 C o b ρ) := by rw [evE]; rfl
@[simp] theorem evE_neg (a : CE) : evE C (.neg a) ρ h = (evE C a ρ h).bind kNeg := by rw [evE]; rfl
@[simp] theorem evE_and (a b : CE) : evE C (.and a b) ρ h = (asB (evE C a ρ h)).bind (kAnd C b ρ) := by rw [evE]; rfl
@[simp] theorem evE_or (a b : CE) : evE C (.or a b) ρ h = (asB (evE C a ρ h)).bind (kOr C b ρ) := by rw [evE]; rfl
@[simp] theorem evE_nt (a : CE) : evE C (.nt a) ρ h = (asB (evE C a ρ h)).bind kNt := by rw [evE]; rfl
@[simp] theorem evE_cmp (o : COp) (a b : CE) : evE C (.cmp o a b) ρ h = (evE C a ρ h).bind (kCmp1 C o b ρ) := by rw [evE]; rfl
@[simp] theorem evE_chn (o o' : COp) (a b c : CE) : evE C (.chn o o' a b c) ρ h = (evE C a ρ h).bind (kChn1 C o o' b c ρ) := by
  rw [evE]
  refine bind_eq fun x h1 => ?_
  rw [kChn1_app]
  refine bind_eq fun y h2 => ?_
  rw [kChn2_app]
  cases cmpD h2 o x y with
  | none => rfl
  | some t => cases t <;> rfl
@[simp] theorem evE_ite (c a b : CE) : evE C (.ite c a b) ρ h = (asB (evE C c ρ h)).bind (kIte C a b ρ) := by rw [evE]; rfl
@[simp] theorem evE_call (f : Nat) (es : CEs) : evE C (.call f es) ρ h = (evEs C es ρ h).bind (kCall C f) := by rw [evE]; rfl
@[simp] theorem evE_bf (b : BF) (es : CEs) : evE C (.bf b es) ρ h = (evEs C es ρ h).bind (kBf b) := by rw [evE]; rfl
@[simp] theorem evE_isi (t : Ty) (a : CE) : evE C (.isi t a) ρ h = (evE C a ρ h).bind (kIsi t) := by rw [evE]; rfl
@[simp] theorem evE_idx (a i : CE) : evE C (.idx a i) ρ h = (evE C a ρ h).bind (kIdx1 C i ρ) := by rw [evE]; rfl
@[simp] theorem evE_slc (a : CE) (lo hi : CO) : evE C (.slc a lo hi) ρ h = (evE C a ρ h).bind (kSlc1 C lo hi ρ) := by rw [evE]; rfl
@[simp] theorem evE_comp (e : CE) (t : Tg) (own : List Nat) (it : IT) (c : CO) : evE C (.comp e t own it c) ρ h = (evI C it ρ h).bind (kComp C e t c (wipeE ρ own)) := by rw [evE]; rfl
@[simp] theorem evE_tab (x : Str) (t : List (Str × PyData)) (a : CE) : evE C (.tab x t a) ρ h = (evE C a ρ h).bind (kTab t) := by rw [evE]; rfl
@[simp] theorem evE_frz (a : CE) : evE C (.frz a) ρ h = (evE C a ρ h).bind frzD := by rw [evE]; rfl
@[simp] theorem evE_dsp (ks : List Str) (es : CEs) : evE C (.dsp ks es) ρ h = (evEs C es ρ h).noX.bind (kDsp ks) := by rw [evE]; rfl
@[simp] theorem evE_tb0  : evE C .tb0 ρ h = .ok (.ref h.length) (h ++ [.tab []]) := by rw [evE]
@[simp] theorem evE_tb1 (k v : CE) : evE C (.tb1 k v) ρ h = (evE C k ρ h).bind (kTb1 C v ρ) := by rw [evE]; rfl
@[simp] theorem evE_rev (a : CE) : evE C (.rev a) ρ h = (evE C a ρ h).bind kRev := by rw [evE]; rfl
@[simp] theorem evE_pop0 (a : CE) : evE C (.pop0 a) ρ h = (evE C a ρ h).bind kPop0 := by rw [evE]; rfl
@[simp] theorem evE_pop1 (a i : CE) : evE C (.pop1 a i) ρ h = (evE C a ρ h).bind (kPop1 C i ρ) := by rw [evE]; rfl
@[simp] theorem evE_bfm (b : BF) (es : CEs) : evE C (.bfm b es) ρ h = (evEs C es ρ h).bind (kBfm b) := by rw [evE]; rfl
@[simp] theorem evE_lsd (a : CE) : evE C (.lsd a) ρ h = (evE C a ρ h).bind kLsd := by rw [evE]; rfl
@[simp] theorem evE_lrg (a : CE) : evE C (.lrg a) ρ h = (evE C a ρ h).bind kLrg := by rw [evE]; rfl
@[simp] theorem evEs_nil  : evEs C .nil ρ h = .ok [] h := by rw [evEs]
@[simp] theorem evEs_cons (e : CE) (es : CEs) : evEs C (.cons e es) ρ h = (evE C e ρ h).bind (kEs C es ρ) := by rw [evEs]; rfl
@[simp] theorem evO_none  : evO C .none ρ h = .ok none h := by rw [evO]
@[simp] theorem evO_some (e : CE) : evO C (.some e) ρ h = (evE C e ρ h).bind kO := by rw [evO]; rfl
@[simp] theorem evT_none  : evT C .none ρ h = .ok true h := by rw [evT]
@[simp] theorem evT_some (e : CE) : evT C (.some e) ρ h = asB (evE C e ρ h) := by rw [evT]
@[simp] theorem evI_seq (a : CE) : evI C (.seq a) ρ h = (evE C a ρ h).bind seqI := by rw [evI]; rfl
@[simp] theorem evI_rng1 (a : CE) : evI C (.rng1 a) ρ h = (evE C a ρ h).bind kRng1 := by rw [evI]; rfl
@[simp] theorem evI_enum (a : CE) : evI C (.enum a) ρ h = (evE C a ρ h).bind enumI := by rw [evI]; rfl
@[simp] theorem evI_rng2 (a b : CE) : evI C (.rng2 a b) ρ h = (evE C a ρ h).bind (kRng2 C b ρ) := by rw [evI]; rfl
@[simp] theorem evI_zip (a b : CE) : evI C (.zip a b) ρ h = (evE C a ρ h).bind (kZip1 C b ρ) := by rw [evI]; rfl
@[simp] theorem thenS_nx (ss : CSs) (ρ : En) : thenS C ss (.nx ρ) h = evSs C ss ρ h := rfl
@[simp] theorem thenS_rt (ss : CSs) (v : D) : thenS C ss (.rt v) h = .ok (.rt v) h := rfl
@[simp] theorem thenS_nil (fl : Fl) : thenS C .nil fl h = .ok fl h := by cases fl <;> simp [thenS, evSs]
@[simp] theorem evSs_nil : evSs C .nil ρ h = .ok (.nx ρ) h := by rw [evSs]
theorem evSs_cons (s : CS) (ss : CSs) : evSs C (.cons s ss) ρ h = (evS C s ρ h).bind (thenS C ss) := by rw [evSs]; rfl
@[simp] theorem evSs_one (s : CS) : evSs C (.cons s .nil) ρ h = evS C s ρ h := by
  rw [evSs_cons]
  cases evS C s ρ h with
  | ok fl s => simp
  | ex x s => rfl
  | no => rfl
theorem toNx {r : R En} {ss : CSs} : (r.bind kNx).bind (thenS C ss) = r.bind (kSs C ss) := by cases r <;> rfl
@[simp] theorem evS_asg (t : Tg) (e : CE) : evS C (.asg t e) ρ h = ((evE C e ρ h).bind (kAsg t ρ)).bind kNx := by
  rw [evS, R.bind_assoc]
  refine bind_eq fun x h1 => ?_
  rw [kAsg_app]
  cases bindT t x ρ <;> rfl
@[simp] theorem evSs_asg (t : Tg) (e : CE) (ss : CSs) : evSs C (.cons (.asg t e) ss) ρ h = ((evE C e ρ h).bind (kAsg t ρ)).bind (kSs C ss) := by rw [evSs_cons, evS_asg, toNx]
@[simp] theorem evS_par (i j : Nat) (a b : CE) : evS C (.par i j a b) ρ h = ((evE C a ρ h).bind (kPar1 C i j b ρ)).bind kNx := by
  rw [evS, R.bind_assoc]
  refine bind_eq fun x h1 => ?_
  rw [kPar1_app, R.bind_assoc]; rfl
@[simp] theorem evSs_par (i j : Nat) (a b : CE) (ss : CSs) : evSs C (.cons (.par i j a b) ss) ρ h = ((evE C a ρ h).bind (kPar1 C i j b ρ)).bind (kSs C ss) := by rw [evSs_cons, evS_par, toNx]
@[simp] theorem evS_par3 (i j l : Nat) (a b c : CE) : evS C (.par3 i j l a b c) ρ h = ((evE C a ρ h).bind (kPar31 C i j l b c ρ)).bind kNx := by
  rw [evS, R.bind_assoc]
  refine bind_eq fun x h1 => ?_
  rw [kPar31_app, R.bind_assoc]
  refine bind_eq fun y h2 => ?_
  rw [kPar32_app, R.bind_assoc]; rfl
@[simp] theorem evSs_par3 (i j l : Nat) (a b c : CE) (ss : CSs) : evSs C (.cons (.par3 i j l a b c) ss) ρ h = ((evE C a ρ h).bind (kPar31 C i j l b c ρ)).bind (kSs C ss) := by rw [evSs_cons, evS_par3, toNx]
@[simp] theorem evS_put (d k v : CE) : evS C (.put d k v) ρ h = ((evE C v ρ h).bind (kPut1 C d k ρ)).bind kNx := by
  rw [evS, R.bind_assoc]
  refine bind_eq fun z h1 => ?_
  rw [kPut1_app, R.bind_assoc]
  refine bind_eq fun x h2 => ?_
  rw [kPut2_app, R.bind_assoc]
  refine bind_eq fun y h3 => ?_
  rw [kPut3_app]
  cases putD h3 x y z <;> rfl
@[simp] theorem evSs_put (d k v : CE) (ss : CSs) : evSs C (.cons (.put d k v) ss) ρ h = ((evE C v ρ h).bind (kPut1 C d k ρ)).bind (kSs C ss) := by rw [evSs_cons, evS_put, toNx]
@[simp] theorem evS_drop (e : CE) : evS C (.drop e) ρ h = ((evE C e ρ h).bind (kDrop ρ)).bind kNx := by rw [evS, R.bind_assoc]; rfl
@[simp] theorem evSs_drop (e : CE) (ss : CSs) : evSs C (.cons (.drop e) ss) ρ h = ((evE C e ρ h).bind (kDrop ρ)).bind (kSs C ss) := by rw [evSs_cons, evS_drop, toNx]
@[simp] theorem evS_app (l e : CE) : evS C (.app l e) ρ h = (evE C l ρ h).bind (kApp1 C e ρ) := by rw [evS]; rfl
@[simp] theorem evSs_app (l e : CE) (ss : CSs) : evSs C (.cons (.app l e) ss) ρ h = ((evE C l ρ h).bind (kApp1 C e ρ)).bind (thenS C ss) := by rw [evSs_cons, evS_app]
@[simp] theorem evS_ext (l e : CE) : evS C (.ext l e) ρ h = (evE C l ρ h).bind (kExt1 C e ρ) := by rw [evS]; rfl
@[simp] theorem evSs_ext (l e : CE) (ss : CSs) : evSs C (.cons (.ext l e) ss) ρ h = ((evE C l ρ h).bind (kExt1 C e ρ)).bind (thenS C ss) := by rw [evSs_cons, evS_ext]
@[simp] theorem frzR_def (x : D) : frzR x h = frzD x h := by cases x <;> rfl
def kFz (i : Nat) (ρ : En) (x : D) (h : Hs) : R En := .ok (ρ.set i (some x)) h
@[simp] theorem kFz_app (i : Nat) (ρ : En) (x : D) (h : Hs) : kFz i ρ x h = .ok (ρ.set i (some x)) h := rfl
@[simp] theorem evSs_fz (i : Nat) (ss : CSs) : evSs C (.cons (.fz i) ss) ρ h = ((match ρ[i]? with | some (some d) => frzD d h | _ => .no).bind (kFz i ρ)).bind (kSs C ss) := by
  rw [evSs_cons, evS]
  cases ρ[i]? with
  | none => rfl
  | some o =>
    cases o with
    | none => rfl
    | some d => simp only [frzR_def, R.bind_assoc]; rfl
@[simp] theorem evE_said (a : CE) : evE C (.said a) ρ h = saidR (evE C a ρ h) := by rw [evE]
def kRse (x : Str) (d : D) (h : Hs) : R Fl := rseR x d h
@[simp] theorem evS_rse (x : Str) (e : CE) : evS C (.rse x e) ρ h = (evE C e ρ h).bind (kRse x) := by rw [evS]; rfl
@[simp] theorem evSs_rse (x : Str) (e : CE) (ss : CSs) : evSs C (.cons (.rse x e) ss) ρ h = ((evE C e ρ h).bind (kRse x)).bind (thenS C ss) := by rw [evSs_cons, evS_rse]
@[simp] theorem evS_ret (e : CE) : evS C (.ret e) ρ h = (evE C e ρ h).bind kRet := by rw [evS]; rfl
@[simp] theorem evSs_ret (e : CE) (ss : CSs) : evSs C (.cons (.ret e) ss) ρ h = (evE C e ρ h).bind kRet := by
  rw [evSs_cons, evS_ret, R.bind_assoc]; rfl
@[simp] theorem evS_cond (c : CE) (a b : CSs) : evS C (.cond c a b) ρ h = (asB (evE C c ρ h)).bind (kCond C a b ρ) := by rw [evS]; rfl
@[simp] theorem evSs_cond (c : CE) (a b ss : CSs) : evSs C (.cons (.cond c a b) ss) ρ h = (asB (evE C c ρ h)).bind (kCondS C a b ss ρ) := by
  rw [evSs_cons, evS_cond, R.bind_assoc]
  refine bind_eq fun t h1 => ?_
  cases t <;> rfl
@[simp] theorem evS_loop (t : Tg) (it : IT) (b : CSs) : evS C (.loop t it b) ρ h = (evI C it ρ h).bind (kFor C t b ρ) := by rw [evS]; rfl
@[simp] theorem evSs_loop (t : Tg) (it : IT) (b ss : CSs) : evSs C (.cons (.loop t it b) ss) ρ h = ((evI C it ρ h).bind (kFor C t b ρ)).bind (thenS C ss) := by rw [evSs_cons, evS_loop]
@[simp] theorem evS_whl (c : CE) (b : CSs) : evS C (.whl c b) ρ h = whlC C c b turns ρ h := by rw [evS]; rfl
@[simp] theorem evSs_whl (c : CE) (b ss : CSs) : evSs C (.cons (.whl c b) ss) ρ h = (whlC C c b turns ρ h).bind (thenS C ss) := by rw [evSs_cons, evS_whl]
end
/-! ### loops -/
theorem forC_wp {α : Type} {C : Calls} {t : Tg} {b : CSs} {P : Fl → Hs → Prop} (g : α → D) (I : List α → En → Hs → Prop)
    (step : ∀ x rest ρ h, I (x :: rest) ρ h → Wp ((R.of (bindT t (g x) ρ) h).bind (kSs C b)) fun fl h' => match fl with | .nx ρ2 => I rest ρ2 h' | .ct ρ2 => I rest ρ2 h' | .bk ρ2 => P (.nx ρ2) h' | .rt v => P (.rt v) h')
    (fin : ∀ ρ h, I [] ρ h → P (.nx ρ) h) (xs : List α) (ρ : En) (h : Hs) (i : I xs ρ h) : Wp (forC C t b (xs.map g) ρ h) P := by
  refine forL_wp g I (fun x rest ρ h i => ?_) fin xs ρ h i
  have := step x rest ρ h i
  cases e : bindT t (g x) ρ with
  | none => rw [e] at this; exact this.elim
  | some ρ1 => rw [e] at this; exact ⟨ρ1, rfl, this⟩
theorem whlC_wp {C : Calls} {c : CE} {b : CSs} {P : Fl → Hs → Prop} (I : Nat → En → Hs → Prop)
    (step : ∀ n ρ h, I n ρ h → Wp (asB (evE C c ρ h)) fun t h1 => if t then 0 < n ∧ Wp (evSs C b ρ h1) fun fl h' => (match fl with | .nx ρ2 => ∃ m, m < n ∧ I m ρ2 h' | .ct ρ2 => ∃ m, m < n ∧ I m ρ2 h' | .bk ρ2 => P (.nx ρ2) h' | .rt v => P (.rt v) h') else P (.nx ρ) h1) (N n : Nat) (hn : n < N) (ρ : En) (h : Hs) (i : I n ρ h) : Wp (whlC C c b N ρ h) P :=
  whlL_wp I step N n hn ρ h i
theorem compC_eq {α : Type} {C : Calls} {ce : CE} {tg : Tg} {c : CO} {ρ : En} (g : α → D) (t : α → Bool) (e : α → PyData) (h : Hs) (xs : List α)
    (H : ∀ x ∈ xs, ((R.of (bindT tg (g x) ρ) h).bind (evT C c)) = .ok (t x) h ∧ (t x = true → ((R.of (bindT tg (g x) ρ) h).bind (evE C ce)) = .ok (.dat (e x)) h)) : compC C ce tg c ρ (xs.map g) h = .ok ((xs.filter t).map e) h := by
  refine compL_eq g t e h xs fun x hx => ?_
  obtain ⟨h1, h2⟩ := H x hx
  cases q : bindT tg (g x) ρ with
  | none => rw [q] at h1; cases h1
  | some ρ1 => rw [q] at h1 h2; exact ⟨ρ1, rfl, h1, h2⟩
theorem compC_map {α : Type} {C : Calls} {ce : CE} {tg : Tg} {ρ : En} (g : α → D) (e : α → PyData) (h : Hs) (xs : List α)
    (H : ∀ x ∈ xs, ((R.of (bindT tg (g x) ρ) h).bind (evE C ce)) = .ok (.dat (e x)) h) : compC C ce tg .none ρ (xs.map g) h = .ok (xs.map e) h := by
  rw [compC_eq g (fun _ => true) e h xs fun x hx => ⟨?_, fun _ => H x hx⟩, List.filter_eq_self.mpr fun _ _ => rfl]
  have := H x hx
  cases q : bindT tg (g x) ρ with
  | none => rw [q] at this; cases this
  | some ρ1 => simp
def absI (i : Int) : Int := if i < 0 then -i else i
/-! ### values -/
section
variable {h : Hs}
@[simp] theorem asBool_b (b : Bool) : asBool (.dat (.bool b)) = some b := rfl
@[simp] theorem dats_nil : dats [] = some [] := rfl
@[simp] theorem dats_cons (p : PyData) (ds : List D) : dats (.dat p :: ds) = (dats ds).map (p :: ·) := rfl
@[simp] theorem bindT_name (i : Nat) (d : D) (ρ : En) : bindT (.name i) d ρ = some (ρ.set i (some d)) := by rw [bindT]
@[simp] theorem bindT_tup (ts : Tgs) (ps : List PyData) (ρ : En) : bindT (.tup ts) (.dat (.tuple ps)) ρ = bindTs ts ps ρ := by rw [bindT]
@[simp] theorem bindTs_nil (ρ : En) : bindTs .nil [] ρ = some ρ := by rw [bindTs]
@[simp] theorem bindTs_cons (t : Tg) (ts : Tgs) (p : PyData) (ps : List PyData) (ρ : En) : bindTs (.cons t ts) (p :: ps) ρ = (bindT t (.dat p) ρ).bind fun ρ' => bindTs ts ps ρ' := by
  rw [bindTs]; cases bindT t (.dat p) ρ <;> rfl
@[simp] theorem wipeE_nil (ρ : En) : wipeE ρ [] = ρ := rfl
@[simp] theorem wipeE_cons (ρ : En) (v : Nat) (vs : List Nat) : wipeE ρ (v :: vs) = (wipeE ρ vs).set v none := rfl
@[simp] theorem cmpD_eq (p q : PyData) : cmpD h .eq (.dat p) (.dat q) = if deep p q then some (p.eqv q) else none := rfl
@[simp] theorem cmpD_ne (p q : PyData) : cmpD h .ne (.dat p) (.dat q) = if deep p q then some (!p.eqv q) else none := rfl
@[simp] theorem cmpD_lt (i j : Int) : cmpD h .lt (dI i) (dI j) = some (decide (i < j)) := rfl
@[simp] theorem cmpD_le (i j : Int) : cmpD h .le (dI i) (dI j) = some (decide (i ≤ j)) := rfl
@[simp] theorem cmpD_gt (i j : Int) : cmpD h .gt (dI i) (dI j) = some (decide (j < i)) := rfl
@[simp] theorem cmpD_ge (i j : Int) : cmpD h .ge (dI i) (dI j) = some (decide (j ≤ i)) := rfl
@[simp] theorem cmpD_in_t (p : PyData) (xs : List PyData) : cmpD h .isin (.dat p) (dT xs) = if deep (.tuple xs) p then some (xs.any fun y => PyData.eqv y p) else none := rfl
@[simp] theorem cmpD_in_l (p : PyData) (xs : List PyData) : cmpD h .isin (.dat p) (dL xs) = if deep (.list xs) p then some (xs.any fun y => PyData.eqv y p) else none := rfl
@[simp] theorem cmpD_ni_t (p : PyData) (xs : List PyData) : cmpD h .notin (.dat p) (dT xs) = if deep (.tuple xs) p then some (!xs.any fun y => PyData.eqv y p) else none := rfl
@[simp] theorem cmpD_ni_l (p : PyData) (xs : List PyData) : cmpD h .notin (.dat p) (dL xs) = if deep (.list xs) p then some (!xs.any fun y => PyData.eqv y p) else none := rfl
@[simp] theorem cmpD_isN (x : D) : cmpD h .isN x dN = some (isNone x) := rfl
@[simp] theorem cmpD_notN (x : D) : cmpD h .notN x dN = some (!isNone x) := rfl
@[simp] theorem cmpD_isB (a b : Bool) : cmpD h .isN (.dat (.bool a)) (.dat (.bool b)) = some (decide (a = b)) := rfl
@[simp] theorem cmpD_notB (a b : Bool) : cmpD h .notN (.dat (.bool a)) (.dat (.bool b)) = some (!decide (a = b)) := rfl
@[simp] theorem isNone_n : isNone dN = true := rfl
@[simp] theorem isNone_t (xs : List PyData) : isNone (dT xs) = false := rfl
@[simp] theorem isNone_l (xs : List PyData) : isNone (dL xs) = false := rfl
@[simp] theorem isNone_i (i : Int) : isNone (dI i) = false := rfl
@[simp] theorem isNone_b (b : Bool) : isNone (D.dat (.bool b)) = false := rfl
@[simp] theorem isNone_s (x : Str) : isNone (.dat (.str x)) = false := rfl
@[simp] theorem isNone_d (kvs : List (PyData × PyData)) : isNone (.dct kvs) = false := rfl
@[simp] theorem idxD_t (xs : List PyData) (i : Int) : idxD h (dT xs) (dI i) = (L2.atI xs i).map .dat := rfl
@[simp] theorem idxD_l (xs : List PyData) (i : Int) : idxD h (dL xs) (dI i) = (L2.atI xs i).map .dat := rfl
@[simp] theorem binD_dat (o : BOp) (p q : PyData) : binD o (.dat p) (.dat q) = (binP o p q).map .dat := rfl
@[simp] theorem binP_add (i j : Int) : binP .add (.int i) (.int j) = some (.int (i + j)) := rfl
@[simp] theorem binP_sub (i j : Int) : binP .sub (.int i) (.int j) = some (.int (i - j)) := rfl
@[simp] theorem binP_addT (xs ys : List PyData) : binP .add (.tuple xs) (.tuple ys) = if xs.length + ys.length ≤ sizeLine then some (.tuple (xs ++ ys)) else none := rfl
@[simp] theorem binP_addL (xs ys : List PyData) : binP .add (.list xs) (.list ys) = if xs.length + ys.length ≤ sizeLine then some (.list (xs ++ ys)) else none := rfl
@[simp] theorem rds_nil : rds h [] = some [] := rfl
@[simp] theorem rds_cons (d : D) (r : List D) : rds h (d :: r) = (rd h d).bind fun p => (rds h r).map (p :: ·) := by
  simp only [rds]
  cases rd h d <;> cases rds h r <;> rfl
@[simp] theorem rd_datS (p : PyData) : rd h (.dat p) = some p := rfl
@[simp] theorem bfD_1 (b : BF) (p : PyData) : bfD h b [.dat p] = (bfP b [p]).map .dat := rfl
@[simp] theorem bfD_2 (b : BF) (p q : PyData) : bfD h b [.dat p, .dat q] = (bfP b [p, q]).map .dat := rfl
@[simp] theorem bfD_r (b : BF) (n : Nat) : bfD h b [.ref n] = (rd h (.ref n)).bind fun p => (bfP b [p]).map .dat := by
  simp only [bfD, rds]
  cases rd h (.ref n) <;> rfl
@[simp] theorem bfD_scr (b : BF) (ns : List Int) : bfD h b [.scr ns] = (bfP b [.list (ns.map .int)]).map .dat := rfl
@[simp] theorem rd_ref (n : Nat) : rd h (.ref n) = (match h[n]? with
    | some (.lst xs) => (dats xs).map .list
    | _ => none) := rfl
@[simp] theorem dats_mapE {α : Type} (f : α → PyData) (xs : List α) : dats (xs.map fun x => .dat (f x)) = some (xs.map f) := by
  induction xs with
  | nil => rfl
  | cons p ps ih => simp [dats, ih]
@[simp] theorem dats_mapD (xs : List PyData) : dats (xs.map .dat) = some xs := by
  have := dats_mapE id xs
  simpa using this
@[simp] theorem dats_app (xs ys : List D) : dats (xs ++ ys) = (dats xs).bind fun a => (dats ys).map (a ++ ·) := by
  induction xs with
  | nil => cases q : dats ys <;> simp [q]
  | cons x xs ih =>
    cases x with
    | dat p => simp only [List.cons_append, dats, ih]; cases dats xs <;> cases dats ys <;> simp
    | _ => rfl
@[simp] theorem bf_len : bfP .len = lenP := rfl
@[simp] theorem bf_int : bfP .int = intP := rfl
@[simp] theorem bf_all : bfP .all = allP := rfl
@[simp] theorem bf_any : bfP .any = anyP := rfl
@[simp] theorem bf_sorted : bfP .sorted = sortP := rfl
@[simp] theorem bf_tuple : bfP .tuple = tupP := rfl
@[simp] theorem bf_list : bfP .list = lstP := rfl
@[simp] theorem bf_min1 : bfP .min1 = minP := rfl
@[simp] theorem bf_max1 : bfP .max1 = maxP := rfl
@[simp] theorem bf_min2 : bfP .min2 = min2P := rfl
@[simp] theorem bf_max2 : bfP .max2 = max2P := rfl
@[simp] theorem bf_abs : bfP .abs = absP := rfl
@[simp] theorem bf_repr : bfP .repr = reprP := rfl
@[simp] theorem lenP_l (xs : List PyData) : lenP [.list xs] = some (.int xs.length) := rfl
@[simp] theorem lenP_t (xs : List PyData) : lenP [.tuple xs] = some (.int xs.length) := rfl
@[simp] theorem intP_i (i : Int) : intP [.int i] = some (.int i) := rfl
@[simp] theorem intP_b (b : Bool) : intP [.bool b] = some (.int (if b then 1 else 0)) := rfl
@[simp] theorem tupP_l (xs : List PyData) : tupP [.list xs] = some (.tuple xs) := rfl
@[simp] theorem tupP_t (xs : List PyData) : tupP [.tuple xs] = some (.tuple xs) := rfl
@[simp] theorem lstP_l (xs : List PyData) : lstP [.list xs] = some (.list xs) := rfl
@[simp] theorem lstP_t (xs : List PyData) : lstP [.tuple xs] = some (.list xs) := rfl
@[simp] theorem min2P_i (i j : Int) : min2P [.int i, .int j] = some (.int (if j < i then j else i)) := rfl
@[simp] theorem max2P_i (i j : Int) : max2P [.int i, .int j] = some (.int (if j > i then j else i)) := rfl
@[simp] theorem absP_i (i : Int) : absP [.int i] = some (.int (absI i)) := rfl
@[simp] theorem slcP_l (xs : List PyData) (lo hi : Option Int) : slcP (.list xs) lo hi = some (.list (cut xs lo hi)) := rfl
@[simp] theorem slcP_t (xs : List PyData) (lo hi : Option Int) : slcP (.tuple xs) lo hi = some (.tuple (cut xs lo hi)) := rfl
theorem all_boolsS {α : Type} (f : α → Bool) (xs : List α) : (xs.map fun x => PyData.bool (f x)).all isBoolD = true := by simp [isBoolD]
@[simp] theorem allP_bools {α : Type} (f : α → Bool) (xs : List α) : allP [.list (xs.map fun x => .bool (f x))] = some (.bool (xs.all f)) := by
  simp [allP, isBoolD, List.all_map, Function.comp_def, PyData.truthy]
@[simp] theorem anyP_bools {α : Type} (f : α → Bool) (xs : List α) : anyP [.list (xs.map fun x => .bool (f x))] = some (.bool (xs.any f)) := by
  simp [anyP, isBoolD, List.any_map, List.all_map, Function.comp_def, PyData.truthy]
/-! ### depths -/
theorem deepL {p : PyData} (hp : p.depth ≤ 100) (q : PyData) : deep p q = true := by simp only [deep, decide_eq_true_eq]; omega
theorem deepR {q : PyData} (hp : q.depth ≤ 100) (p : PyData) : deep p q = true := by simp only [deep, decide_eq_true_eq]; omega
@[simp] theorem deep_n (q : PyData) : deep .none q = true := deepL (by simp [PyData.depth]) q
@[simp] theorem deep_b (b : Bool) (q : PyData) : deep (.bool b) q = true := deepL (by simp [PyData.depth]) q
@[simp] theorem deep_i (i : Int) (q : PyData) : deep (.int i) q = true := deepL (by simp [PyData.depth]) q
@[simp] theorem deep_s (x : Str) (q : PyData) : deep (.str x) q = true := deepL (by simp [PyData.depth]) q
@[simp] theorem deep_n' (q : PyData) : deep q .none = true := deepR (by simp [PyData.depth]) q
@[simp] theorem deep_b' (b : Bool) (q : PyData) : deep q (.bool b) = true := deepR (by simp [PyData.depth]) q
@[simp] theorem deep_i' (i : Int) (q : PyData) : deep q (.int i) = true := deepR (by simp [PyData.depth]) q
@[simp] theorem deep_s' (x : Str) (q : PyData) : deep q (.str x) = true := deepR (by simp [PyData.depth]) q
theorem depthAll_le {n : Nat} : ∀ {xs : List PyData}, (∀ x ∈ xs, x.depth ≤ n) → PyData.depthAll xs ≤ n
  | [], _ => by simp [PyData.depthAll]
  | x :: xs, h => by
    simp only [PyData.depthAll]
    have := h x (by simp)
    have := depthAll_le (xs := xs) fun y hy => h y (by simp [hy])
    omega
theorem Bt.dep (b : Bt) : b.e.depth = 1 := by simp [Bt.e, PyData.depth, PyData.depthAll]
theorem Bts.dep (bs : List Bt) : PyData.depthAll (bs.map Bt.e) ≤ 1 := depthAll_le fun x hx => by
  obtain ⟨b, _, rfl⟩ := List.mem_map.mp hx
  rw [Bt.dep]; omega
theorem Sta.dep (s : Sta) : s.e.depth ≤ 3 := by
  have := Bts.dep s.ws
  simp only [Sta.e, PyData.depth, PyData.depthAll]; omega
theorem Tl.dep (s : Tl) : s.e.depth ≤ 3 := by
  have := Bts.dep s.sv
  simp only [Tl.e, PyData.depth, PyData.depthAll]; omega
theorem Ru.dep (s : Ru) : s.e.depth ≤ 3 := by
  have := Bts.dep s.bs
  simp only [Ru.e, PyData.depth, PyData.depthAll]; omega
theorem Evn.dep (s : Evn) : s.e.depth ≤ 2 := by
  cases s with
  | step => simp [Evn.e, PyData.depth, PyData.depthAll]
  | press b => simp [Evn.e, PyData.depth, PyData.depthAll, Bt.dep]
@[simp] theorem deep_Bt (b : Bt) (q : PyData) : deep b.e q = true := deepL (by rw [Bt.dep]; omega) q
@[simp] theorem deep_Bt' (b : Bt) (q : PyData) : deep q b.e = true := deepR (by rw [Bt.dep]; omega) q
@[simp] theorem deep_Bts (bs : List Bt) (q : PyData) : deep (.tuple (bs.map Bt.e)) q = true := deepL (by have := Bts.dep bs; simp only [PyData.depth]; omega) q
@[simp] theorem deep_Bts' (bs : List Bt) (q : PyData) : deep q (.tuple (bs.map Bt.e)) = true := deepR (by have := Bts.dep bs; simp only [PyData.depth]; omega) q
@[simp] theorem deep_BtsL (bs : List Bt) (q : PyData) : deep (.list (bs.map Bt.e)) q = true := deepL (by have := Bts.dep bs; simp only [PyData.depth]; omega) q
@[simp] theorem deep_BtsL' (bs : List Bt) (q : PyData) : deep q (.list (bs.map Bt.e)) = true := deepR (by have := Bts.dep bs; simp only [PyData.depth]; omega) q
@[simp] theorem deep_Sta (s : Sta) (q : PyData) : deep s.e q = true := deepL (by have := Sta.dep s; omega) q
@[simp] theorem deep_Sta' (s : Sta) (q : PyData) : deep q s.e = true := deepR (by have := Sta.dep s; omega) q
@[simp] theorem deep_Tl (s : Tl) (q : PyData) : deep s.e q = true := deepL (by have := Tl.dep s; omega) q
@[simp] theorem deep_Tl' (s : Tl) (q : PyData) : deep q s.e = true := deepR (by have := Tl.dep s; omega) q
@[simp] theorem deep_Ru (s : Ru) (q : PyData) : deep s.e q = true := deepL (by have := Ru.dep s; omega) q
@[simp] theorem deep_Ru' (s : Ru) (q : PyData) : deep q s.e = true := deepR (by have := Ru.dep s; omega) q
@[simp] theorem deep_Evn (s : Evn) (q : PyData) : deep s.e q = true := deepL (by have := Evn.dep s; omega) q
@[simp] theorem deep_Evn' (s : Evn) (q : PyData) : deep q s.e = true := deepR (by have := Evn.dep s; omega) q
@[simp] theorem deep_t0 (q : PyData) : deep (.tuple []) q = true := deepL (by simp [PyData.depth, PyData.depthAll]) q
@[simp] theorem deep_t0' (q : PyData) : deep q (.tuple []) = true := deepR (by simp [PyData.depth, PyData.depthAll]) q
@[simp] theorem deep_l0 (q : PyData) : deep (.list []) q = true := deepL (by simp [PyData.depth, PyData.depthAll]) q
@[simp] theorem deep_l0' (q : PyData) : deep q (.list []) = true := deepR (by simp [PyData.depth, PyData.depthAll]) q
/-! ### ways that meet -/
@[simp] theorem ok_iteD (c : Prop) [Decidable c] (a b : D) : (if c then R.ok a h else R.ok b h) = R.ok (if c then a else b) h := by split <;> rfl
@[simp] theorem ok_iteB (c : Prop) [Decidable c] (a b : Bool) : (if c then R.ok a h else R.ok b h) = R.ok (if c then a else b) h := by split <;> rfl
@[simp] theorem ok_iteR (c : Prop) [Decidable c] (a b : D) : (if c then R.ok (Fl.rt a) h else R.ok (Fl.rt b) h) = R.ok (.rt (if c then a else b)) h := by split <;> rfl
@[simp] theorem dat_ite (c : Prop) [Decidable c] (a b : PyData) : (if c then D.dat a else D.dat b) = D.dat (if c then a else b) := by split <;> rfl
@[simp] theorem bool_ite (c : Prop) [Decidable c] (a b : Bool) : (if c then PyData.bool a else PyData.bool b) = PyData.bool (if c then a else b) := by split <;> rfl
@[simp] theorem int_ite (c : Prop) [Decidable c] (a b : Int) : (if c then PyData.int a else PyData.int b) = PyData.int (if c then a else b) := by split <;> rfl
@[simp] theorem str_ite (c : Prop) [Decidable c] (a b : Str) : (if c then PyData.str a else PyData.str b) = PyData.str (if c then a else b) := by split <;> rfl
@[simp] theorem tup_ite (c : Prop) [Decidable c] (a b : List PyData) : (if c then PyData.tuple a else PyData.tuple b) = PyData.tuple (if c then a else b) := by split <;> rfl
end
@[simp] theorem comp_dat {α : Type} (f : α → PyData) : (D.dat ∘ f) = fun x => D.dat (f x) := rfl
/-! ### parts -/
section
variable {h : Hs}
@[simp] theorem bindT_Sta (ts : Tgs) (s : Sta) (ρ : En) : bindT (.tup ts) (.dat s.e) ρ = bindTs ts [.int s.fl, .str s.hd.s, .int s.door, .tuple (s.ws.map Bt.e)] ρ := bindT_tup _ _ _
@[simp] theorem bindT_Tl (ts : Tgs) (s : Tl) (ρ : En) : bindT (.tup ts) (.dat s.e) ρ = bindTs ts [.int s.fl, .tuple (s.sv.map Bt.e)] ρ := bindT_tup _ _ _
@[simp] theorem bindT_Bt (ts : Tgs) (s : Bt) (ρ : En) : bindT (.tup ts) (.dat s.e) ρ = bindTs ts [.str s.w.s, .int s.f] ρ := bindT_tup _ _ _
@[simp] theorem bindT_Ru (ts : Tgs) (r : Ru) (ρ : En) : bindT (.tup ts) (.dat r.e) ρ = bindTs ts [.int r.fl, .tuple (r.bs.map Bt.e), .str r.pk.s, .str r.tk.s, .str r.re.s, .bool r.hold, .bool r.quick, .int r.op] ρ := bindT_tup _ _ _
@[simp] theorem idxD_Sta (s : Sta) (i : Int) : idxD h (.dat s.e) (dI i) = (L2.atI [.int s.fl, .str s.hd.s, .int s.door, .tuple (s.ws.map Bt.e)] i).map .dat := idxD_t _ _
@[simp] theorem idxD_Tl (s : Tl) (i : Int) : idxD h (.dat s.e) (dI i) = (L2.atI [.int s.fl, .tuple (s.sv.map Bt.e)] i).map .dat := idxD_t _ _
@[simp] theorem idxD_Bt (s : Bt) (i : Int) : idxD h (.dat s.e) (dI i) = (L2.atI [.str s.w.s, .int s.f] i).map .dat := idxD_t _ _
@[simp] theorem idxD_Ru (r : Ru) (i : Int) : idxD h (.dat r.e) (dI i) = (L2.atI [.int r.fl, .tuple (r.bs.map Bt.e), .str r.pk.s, .str r.tk.s, .str r.re.s, .bool r.hold, .bool r.quick, .int r.op] i).map .dat := idxD_t _ _
@[simp] theorem idxD_press (b : Bt) (i : Int) : idxD h (.dat (Evn.press b).e) (dI i) = (L2.atI [.str s_press, b.e] i).map .dat := idxD_t _ _
end
/-- the table with a law's own defs -/
def PT (own : List FD) : List FD := PT0 ++ PT1 ++ PT2 ++ PT3 ++ PT4 ++ PT5 ++ PT6 ++ PT7 ++ PT8 ++ PT9 ++ PT10 ++ own
theorem atI_nat {α : Type} (xs : List α) (n : Nat) : L2.atI xs (n : Int) = xs[n]? := by
  simp only [L2.atI, L2.ixN]
  by_cases hn : n < xs.length
  · simp [hn]
  · simp [hn]
@[simp] theorem atI_0 {α : Type} (xs : List α) : L2.atI xs 0 = xs[0]? := atI_nat xs 0
@[simp] theorem atI_1 {α : Type} (xs : List α) : L2.atI xs 1 = xs[1]? := atI_nat xs 1
@[simp] theorem atI_2 {α : Type} (xs : List α) : L2.atI xs 2 = xs[2]? := atI_nat xs 2
@[simp] theorem atI_3 {α : Type} (xs : List α) : L2.atI xs 3 = xs[3]? := atI_nat xs 3
@[simp] theorem atI_4 {α : Type} (xs : List α) : L2.atI xs 4 = xs[4]? := atI_nat xs 4
@[simp] theorem atI_5 {α : Type} (xs : List α) : L2.atI xs 5 = xs[5]? := atI_nat xs 5
@[simp] theorem atI_6 {α : Type} (xs : List α) : L2.atI xs 6 = xs[6]? := atI_nat xs 6
@[simp] theorem atI_7 {α : Type} (xs : List α) : L2.atI xs 7 = xs[7]? := atI_nat xs 7
@[simp] theorem atI_m1 {α : Type} (xs : List α) : L2.atI xs (-1) = xs.getLast? := by
  simp only [L2.atI, L2.ixN]
  cases xs with
  | nil => rfl
  | cons x xs =>
    rw [if_neg (by omega), if_pos (by simp; omega), List.getLast?_eq_getElem?]
    have e : (-1 + (((x :: xs).length : Nat) : Int)).toNat = (x :: xs).length - 1 := by simp; omega
    simp only [Option.bind_some, e]
end L2.LC

set_option maxHeartbeats 1000000
/-! LS: order of buttons, sorting; steps. -/
namespace L2.LC
open PySem
def Wd.n : Wd → Int | .down => 0 | .inn => 1 | .none => 2 | .up => 3
def Bt.lt (a b : Bt) : Bool := decide (a.w.n < b.w.n) || (decide (a.w = b.w) && decide (a.f < b.f))
def Bt.le (a b : Bt) : Bool := !Bt.lt b a
theorem itemI (a b : Int) : PyProof.Rows.itemLt (.inl a) (.inl b) = decide (a < b) := rfl
theorem itemW (a b : Wd) : PyProof.Rows.itemLt (.inr a.s.cps.toList) (.inr b.s.cps.toList) = decide (a.n < b.n) := by cases a <;> cases b <;> decide
theorem keyToks_bt (b : Bt) : W.keyToks b.e = [.inl 1, .inr b.w.s.cps.toList, .inl 1, .inl b.f, .inl 0] := by
  simp [Bt.e, W.keyToks, W.keyToksAll]
theorem Wd.n_inj {a b : Wd} : a.n = b.n ↔ a = b := by cases a <;> cases b <;> simp [Wd.n]
theorem dataLt_bt (a b : Bt) : W.dataLt a.e b.e = a.lt b := by
  have h1 : ((1 : Int) < 1) = False := by simp
  have h0 : ((0 : Int) < 0) = False := by simp
  simp only [W.dataLt, keyToks_bt, PyProof.Rows.lexLt, itemI, itemW, h1, h0, decide_false, Bool.false_or, Bool.not_false, Bool.true_and, Bool.and_false, Bool.or_false, Bt.lt]
  by_cases e : a.w = b.w
  · simp [e]
  · have : a.w.n ≠ b.w.n := fun q => e (Wd.n_inj.mp q)
    by_cases l : a.w.n < b.w.n
    · simp [l]
    · have : b.w.n < a.w.n := by omega
      simp [l, this, e]
theorem dataLe_bt (a b : Bt) : W.dataLe false id a.e b.e = a.le b := by
  show (!PyProof.Rows.lexLt PyProof.Rows.itemOrd (W.keyToks b.e) (W.keyToks a.e)) = a.le b
  rw [Bt.le, ← dataLt_bt]; rfl
theorem alike_bt (a b : Bt) : W.alike a.e b.e = true := by simp [Bt.e, W.alike, W.alikeAll]
theorem kSort_map {α β : Type} {f : α → β} {le : α → α → Bool} {le' : β → β → Bool} (xs : List α) (H : ∀ a ∈ xs, ∀ b ∈ xs, le a b = le' (f a) (f b)) : kSort le' (xs.map f) = (kSort le xs).map f := by
  rw [kSort_eq, kSort_eq, List.map_mergeSort H]
def sortB (bs : List Bt) : List Bt := kSort Bt.le bs
theorem sortOk_bt (bs : List Bt) : sortOk (bs.map Bt.e) = true := by
  simp only [sortOk, allAlike, sortable, Bool.and_eq_true, Bool.or_eq_true, decide_eq_true_eq]
  refine ⟨⟨?_, .inl ?_⟩, ?_⟩
  · simp [List.all_eq_true, alike_bt]
  · simp [List.all_eq_true, Bt.e]
  · have := Bts.dep bs; omega
@[simp] theorem sortP_bt (bs : List Bt) : sortP [.list (bs.map Bt.e)] = some (.list ((sortB bs).map Bt.e)) := by
  simp only [sortP, sortOk_bt, if_true, sortB]
  rw [kSort_map bs fun a _ b _ => (dataLe_bt a b).symm]
@[simp] theorem sortP_btT (bs : List Bt) : sortP [.tuple (bs.map Bt.e)] = some (.list ((sortB bs).map Bt.e)) := by
  simp only [sortP, sortOk_bt, if_true, sortB]
  rw [kSort_map bs fun a _ b _ => (dataLe_bt a b).symm]
@[simp] theorem sortP_nil : sortP [.list []] = some (.list []) := sortP_bt []
@[simp] theorem sortP_one (b : Bt) : sortP [.list [b.e]] = some (.list [b.e]) := by
  have := sortP_bt [b]
  simpa [sortB, kSort, kSortF] using this
@[simp] theorem any_bt (bs : List Bt) (b : Bt) : (bs.map Bt.e).any (fun y => y.eqv b.e) = bs.contains b := by
  induction bs with
  | nil => rfl
  | cons a bs ih => simp only [List.map_cons, List.any_cons, ih, Bt.eqv, List.contains_cons]; congr 1; exact (decide_eq_decide.mpr eq_comm)
@[simp] theorem any_bt' (bs : List Bt) (b : Bt) : bs.any ((fun y => PyData.eqv y b.e) ∘ Bt.e) = decide (b ∈ bs) := by
  have := any_bt bs b
  rw [List.any_map] at this
  rw [this]; simp
@[simp] theorem eqv_t (xs ys : List PyData) : PyData.eqv (.tuple xs) (.tuple ys) = PyData.eqvAll xs ys := by rw [PyData.eqv]
@[simp] theorem eqv_l (xs ys : List PyData) : PyData.eqv (.list xs) (.list ys) = PyData.eqvAll xs ys := by rw [PyData.eqv]
@[simp] theorem eqv_i (i j : Int) : PyData.eqv (.int i) (.int j) = decide (i = j) := by rw [PyData.eqv]; rfl
@[simp] theorem eqv_b (i j : Bool) : PyData.eqv (.bool i) (.bool j) = decide (i = j) := by rw [PyData.eqv]; cases i <;> cases j <;> rfl
@[simp] theorem eqv_s (i j : Str) : PyData.eqv (.str i) (.str j) = (i == j) := by rw [PyData.eqv]
@[simp] theorem eqvAll_xn (xs : List PyData) : PyData.eqvAll xs [] = xs.isEmpty := by cases xs <;> simp [PyData.eqvAll]
@[simp] theorem eqvAll_nx (xs : List PyData) : PyData.eqvAll [] xs = xs.isEmpty := by cases xs <;> simp [PyData.eqvAll]
@[simp] theorem eqvAll_nn : PyData.eqvAll [] [] = true := by rw [PyData.eqvAll]

/-! ### what the program does, in plain Lean -/
def freeS (r : Ru) (old new : Wd) (b : Bt) : Bool := decide (b.w = .inn) || (decide (r.tk = .all) || decide (new = .none)) || (if r.tk = .way then decide (old = b.w) || decide (new = b.w) else decide (r.tk = .fin) && !decide (old = new))
def towardsS (f g : Int) : Wd := if g = f then .none else if f < g then .up else .down
/-- the rows of nearest_floor -/
structure Nr where
  d : Int
  o : Bool
  g : Int
def Nr.e (n : Nr) : PyData := .tuple [.int n.d, .bool n.o, .int n.g]
def bI (b : Bool) : Int := if b = true then 1 else 0
def Nr.lt (a b : Nr) : Bool := decide (a.d < b.d) || (!decide (b.d < a.d) && (decide (bI a.o < bI b.o) || (!decide (bI b.o < bI a.o) && decide (a.g < b.g))))
theorem dataLt_nr (a b : Nr) : W.dataLt a.e b.e = a.lt b := by
  have h1 : ((1 : Int) < 1) = False := by simp
  have h0 : ((0 : Int) < 0) = False := by simp
  simp only [W.dataLt, Nr.e, W.keyToks, W.keyToksAll, List.cons_append, List.nil_append, PyProof.Rows.lexLt, itemI, h1, h0, decide_false, Bool.false_or, Bool.not_false, Bool.true_and, Bool.and_false, Bool.or_false, Nr.lt, bI]
  rfl
def minNr (x : Nr) (xs : List Nr) : Nr := xs.foldl (fun a y => if y.lt a then y else a) x
theorem minD_nr (x : Nr) (xs : List Nr) : W.minD x.e (xs.map Nr.e) = (minNr x xs).e := by
  unfold W.minD minNr
  induction xs generalizing x with
  | nil => rfl
  | cons y ys ih =>
    simp only [List.map_cons, List.foldl_cons, dataLt_nr]
    rw [← ih]
    cases y.lt x <;> rfl
theorem minP_nr (x : Nr) (xs : List Nr) : minP [.list ((x :: xs).map Nr.e)] = some (minNr x xs).e := by
  have hd : ∀ n : Nr, n.e.depth = 1 := fun n => by simp [Nr.e, PyData.depth, PyData.depthAll]
  have ha : ∀ a b : Nr, W.alike a.e b.e = true := fun a b => by simp [Nr.e, W.alike, W.alikeAll]
  have hz : PyData.depthAll ((x :: xs).map Nr.e) ≤ 1 := depthAll_le fun y hy => by
    obtain ⟨b, _, rfl⟩ := List.mem_map.mp hy
    rw [hd]; omega
  have ho : extOk ((x :: xs).map Nr.e) = true := by
    simp only [extOk, allAlike, Bool.and_eq_true, decide_eq_true_eq]
    refine ⟨⟨?_, ?_⟩, by omega⟩
    · simp [List.all_eq_true, ha]
    · simp [List.all_eq_true, Nr.e, notNone]
  simp only [List.map_cons] at ho ⊢
  simp only [minP, ho, if_true, minD_nr]
def nrOf (s : Sta) (b : Bt) : Nr := ⟨absI (b.f - s.fl), if s.hd = .down then decide (s.fl < b.f) else decide (b.f < s.fl), b.f⟩
def nearS (s : Sta) : Int := match s.ws with
  | [] => 0
  | b :: bs => (minNr (nrOf s b) (bs.map (nrOf s))).g
def headS (r : Ru) (s : Sta) : Wd := if s.ws = [] then .none else
  if r.pk = .nearest then towardsS s.fl (nearS s) else
  if r.pk = .eldest then (match s.ws with | [] => .none | b :: _ => towardsS s.fl b.f) else
  if s.ws.any (fun b => decide (s.fl < b.f)) && !(decide (s.hd = .down) && s.ws.any (fun b => decide (b.f < s.fl))) then .up else
  if s.ws.any (fun b => decide (b.f < s.fl)) then .down else .none
def Wd.way : Wd → Int | .up => 1 | .down => -1 | _ => 0
def pressS (r : Ru) (s : Sta) (b : Bt) : Sta × Tl :=
  if s.ws.contains b then (s, ⟨s.fl, []⟩)
  else if decide (0 < s.door) && (decide (b.f = s.fl) && freeS r s.hd s.hd b) then (⟨s.fl, s.hd, if r.hold then r.op else s.door, s.ws⟩, ⟨s.fl, [b]⟩)
  else (⟨s.fl, s.hd, s.door, if r.pk = .eldest then s.ws ++ [b] else sortB (s.ws ++ [b])⟩, ⟨s.fl, []⟩)
def closeS (r : Ru) (s : Sta) : Sta :=
  if decide (s.door = 1) && (r.quick && s.ws.any fun b => !decide (b.f = s.fl)) then ⟨s.fl + (headS r s).way, headS r s, s.door - 1, s.ws⟩ else ⟨s.fl, s.hd, s.door - 1, s.ws⟩
def servS (r : Ru) (s : Sta) : List Bt := s.ws.filter fun b => decide (b.f = s.fl) && freeS r s.hd (headS r s) b
def stepS (r : Ru) (s : Sta) : Sta × Tl :=
  if 0 < s.door then (closeS r s, ⟨(closeS r s).fl, []⟩)
  else if s.ws = [] then
    (if decide (r.re = .home) && decide (0 < s.fl) then (⟨s.fl - 1, .down, 0, []⟩, ⟨s.fl - 1, []⟩) else (⟨s.fl, .none, 0, []⟩, ⟨s.fl, []⟩))
  else if servS r s = [] then (⟨s.fl + (headS r s).way, headS r s, 0, s.ws⟩, ⟨s.fl + (headS r s).way, []⟩)
  else (⟨s.fl, headS r s, r.op, s.ws.filter fun b => !(servS r s).contains b⟩, ⟨s.fl, sortB (servS r s)⟩)
def doneS (r : Ru) (s : Sta) : Evn → Sta × Tl
  | .step => stepS r s
  | .press b => pressS r s b
def stE (q : Sta × Tl) : PyData := .tuple [q.1.e, q.2.e]

/-! ### the walks -/
section
variable (own : List FD) (k : Nat) (h : Hs)
@[simp] theorem ev_free_by (r : Ru) (old new : Wd) (b : Bt) : evF (PT own) (k + 1) 16 [.dat r.e, .dat (.str old.s), .dat (.str new.s), .dat b.e] h = .ok (dB (freeS r old new b)) h := by
  refine evF_pure (fd := fd_free_by) (by rfl) rfl rfl ?_ h
  simp [fd_free_by]
  rfl
@[simp] theorem ev_towards (f g : Int) : evF (PT own) (k + 1) 20 [dI f, dI g] h = .ok (.dat (.str (towardsS f g).s)) h := by
  refine evF_pure (fd := fd_towards) (by rfl) rfl rfl ?_ h
  simp [fd_towards, towardsS]
  split
  · rfl
  · split <;> rfl
@[simp] theorem lstAt_ref (h : Hs) (n : Nat) : lstAt h (.ref n) = (match h[n]? with | some (.lst _) => some n | _ => none) := rfl
@[simp] theorem lt_line (n : Nat) (hn : n ≤ 1000000) : n < sizeLine := by have : sizeLine = 16777216 := rfl; omega
@[simp] theorem le_line (n : Nat) (hn : n ≤ 1000000) : n ≤ sizeLine := by have : sizeLine = 16777216 := rfl; omega
@[simp] theorem ev_nearest_floor (s : Sta) (hw : s.ws ≠ []) (hl : s.ws.length ≤ 1000) : evF (PT own) (k + 1) 21 [.dat s.e] h = .ok (dI (nearS s)) h := by
  refine evF_pure (fd := fd_nearest_floor) (by rfl) rfl rfl ?_ h
  simp [fd_nearest_floor, Function.comp_def]
  refine forC_wp (fun b : Bt => .dat b.e) (fun rest ρ st => ∃ dn a b c, dn ++ rest = s.ws ∧ ρ = [some (.dat s.e), some (dI s.fl), some (.dat (.str s.hd.s)), some (dI s.door), some (dT (s.ws.map Bt.e)), some (.ref 0), a, b, c] ∧ st = [.lst (dn.map fun b => .dat (nrOf s b).e)]) ?_ ?_ s.ws _ _ ?_
  · rintro x rest ρ st ⟨dn, a, b, c, e, rfl, rfl⟩
    have hz : dn.length < sizeLine := lt_line _ (by have := congrArg List.length e; simp at this; omega)
    simp [appAt, hz]
    exact ⟨dn ++ [x], by simp [e], by simp [nrOf, Nr.e]⟩
  · rintro ρ st ⟨dn, a, b, c, e, rfl, rfl⟩
    simp at e
    subst e
    cases hd : s.ws with
    | nil => exact absurd hd hw
    | cons b bs =>
      have := minP_nr (nrOf s b) (bs.map (nrOf s))
      simp only [List.map_cons, List.map_map, Function.comp_def] at this
      simp [nearS, hd, this]
      simp [Nr.e]
  · exact ⟨[], none, none, none, by simp, rfl, by simp⟩
@[simp] theorem ev_heading_in (r : Ru) (s : Sta) (hl : s.ws.length ≤ 1000) : evF (PT own) (k + 2) 22 [.dat r.e, .dat s.e] h = .ok (.dat (.str (headS r s).s)) h := by
  refine evF_pure (fd := fd_heading_in) (by rfl) rfl rfl ?_ h
  by_cases h0 : s.ws = []
  · simp [fd_heading_in, h0, headS]; rfl
  cases hp : r.pk with
  | nearest => simp [fd_heading_in, h0, hp, hl, headS]
  | eldest =>
    cases hw : s.ws with
    | nil => exact absurd hw h0
    | cons b bs => simp [fd_heading_in, hp, hw, headS, PyData.eqvAll]
  | sweep =>
    simp [fd_heading_in, hp, h0, Function.comp_def]
    rw [compC_map (fun b : Bt => .dat b.e) (fun b => .bool (decide (s.fl < b.f))) _ _ fun b _ => by simp]
    simp
    rw [compC_map (fun b : Bt => .dat b.e) (fun b => .bool (decide (b.f < s.fl))) _ _ fun b _ => by simp]
    simp [headS, h0, hp]
    split
    · rfl
    · split <;> rfl
@[simp] theorem ev_told_by (s : Sta) (bs : List Bt) : evF (PT own) (k + 1) 23 [.dat s.e, dL (bs.map Bt.e)] h = .ok (.dat (stE (s, ⟨s.fl, sortB bs⟩))) h := by
  refine evF_pure (fd := fd_told_by) (by rfl) rfl rfl ?_ h
  simp [fd_told_by, stE, Tl.e]
@[simp] theorem ev_told_by0 (s : Sta) : evF (PT own) (k + 1) 23 [.dat s.e, dL []] h = .ok (.dat (stE (s, ⟨s.fl, []⟩))) h := ev_told_by own k h s []
@[simp] theorem ev_told_by1 (s : Sta) (b : Bt) : evF (PT own) (k + 1) 23 [.dat s.e, dL [b.e]] h = .ok (.dat (stE (s, ⟨s.fl, [b]⟩))) h := ev_told_by own k h s [b]
theorem sta_fold (a c : Int) (b : Wd) (ws : List Bt) : PyData.tuple [.int a, .str b.s, .int c, .tuple (ws.map Bt.e)] = (⟨a, b, c, ws⟩ : Sta).e := rfl
theorem sta_fold2 (a c : Int) (b : Wd) (ws : List Bt) (x : Bt) : PyData.tuple [.int a, .str b.s, .int c, .tuple (ws.map Bt.e ++ [x.e])] = (⟨a, b, c, ws ++ [x]⟩ : Sta).e := by simp [Sta.e]
@[simp] theorem sortP_snoc (ws : List Bt) (b : Bt) : sortP [.tuple (ws.map Bt.e ++ [b.e])] = some (.list ((sortB (ws ++ [b])).map Bt.e)) := by
  have := sortP_btT (ws ++ [b])
  simpa using this
theorem map_snoc (ws : List Bt) (b : Bt) : ws.map Bt.e ++ [b.e] = (ws ++ [b]).map Bt.e := by simp
@[simp] theorem ev_pressed (r : Ru) (s : Sta) (b : Bt) (hl : s.ws.length ≤ 1000) : evF (PT own) (k + 2) 24 [.dat r.e, .dat s.e, .dat b.e] h = .ok (.dat (stE (pressS r s b))) h := by
  refine evF_pure (fd := fd_pressed) (by rfl) rfl rfl ?_ h
  by_cases h0 : b ∈ s.ws
  · simp [fd_pressed, h0, pressS]
  have hz : s.ws.length + 1 ≤ sizeLine := le_line _ (by omega)
  by_cases h1 : 0 < s.door ∧ b.f = s.fl ∧ freeS r s.hd s.hd b = true
  · simp [fd_pressed, h0, h1, pressS, sta_fold]
  · by_cases h2 : r.pk = .eldest
    · simp [fd_pressed, h0, h1, h2, pressS, hz, sta_fold2]
    · simp [fd_pressed, h0, h1, h2, pressS, hz, sta_fold]
theorem lookup_ways (w : Wd) : tab_WAYS.lookup w.s = (match w with | .inn => none | w => some (.int w.way)) := by cases w <;> rfl
theorem towards_in (a b : Int) : towardsS a b ≠ .inn := by
  unfold towardsS
  split
  · simp
  · split <;> simp
theorem head_in (r : Ru) (s : Sta) : headS r s ≠ .inn := by
  unfold headS
  split; · simp
  split; · exact towards_in _ _
  split
  · split
    · simp
    · exact towards_in _ _
  split; · simp
  split <;> simp
theorem ways_head (r : Ru) (s : Sta) : tab_WAYS.lookup (headS r s).s = some (.int (headS r s).way) := by
  rw [lookup_ways]
  have := head_in r s
  split
  · contradiction
  · rfl
@[simp] theorem ev_closing (r : Ru) (s : Sta) (hl : s.ws.length ≤ 1000) : evF (PT own) (k + 3) 25 [.dat r.e, .dat s.e] h = .ok (.dat (closeS r s).e) h := by
  refine evF_pure (fd := fd_closing) (by rfl) rfl rfl ?_ h
  by_cases h0 : s.door = 1 ∧ r.quick = true
  · simp [fd_closing, h0, Function.comp_def]
    rw [compC_map (fun b : Bt => .dat b.e) (fun b => .bool (!decide (b.f = s.fl))) _ _ fun b _ => by simp]
    cases h1 : s.ws.any fun b => !decide (b.f = s.fl) with
    | true => simp [h1, hl, ways_head, closeS, h0, sta_fold, Function.comp_def]
    | false => simp [h1, closeS, h0, sta_fold, Function.comp_def]
  · have h1 : (decide (s.door = 1) && (r.quick && s.ws.any fun b => !decide (b.f = s.fl))) = false := by
      cases hq : r.quick <;> by_cases hd : s.door = 1 <;> simp_all
    by_cases hd : s.door = 1
    · have hq : r.quick = false := by simpa [hd] using h0
      simp [fd_closing, hd, hq, closeS, sta_fold]
    · simp [fd_closing, hd, closeS, sta_fold]
@[simp] theorem ev_stepped (r : Ru) (s : Sta) (hl : s.ws.length ≤ 1000) : evF (PT own) (k + 4) 26 [.dat r.e, .dat s.e] h = .ok (.dat (stE (stepS r s))) h := by
  refine evF_pure (fd := fd_stepped) (by rfl) rfl rfl ?_ h
  by_cases h0 : 0 < s.door
  · simp [fd_stepped, h0, stepS, hl]
  by_cases h1 : s.ws = []
  · by_cases h2 : r.re = .home ∧ 0 < s.fl
    · have e : PyData.tuple [.int (s.fl - 1), .str s_down, .int 0, .tuple []] = (⟨s.fl - 1, .down, 0, []⟩ : Sta).e := rfl
      simp [fd_stepped, h0, h1, h2, stepS, e]
    · have e : PyData.tuple [.int s.fl, .str s_none, .int 0, .tuple []] = (⟨s.fl, .none, 0, []⟩ : Sta).e := rfl
      by_cases h3 : r.re = .home
      · have h4 : ¬ 0 < s.fl := fun q => h2 ⟨h3, q⟩
        simp [fd_stepped, h0, h1, h3, h4, stepS, e]
      · simp [fd_stepped, h0, h1, h3, stepS, e]
  · simp [fd_stepped, h0, h1, hl, Function.comp_def]
    rw [compC_eq (fun b : Bt => .dat b.e) (fun b => decide (b.f = s.fl) && freeS r s.hd (headS r s) b) Bt.e _ _ fun b _ => by simp]
    by_cases h2 : servS r s = []
    · have h3 := h2
      unfold servS at h3
      simp [h3, h2, ways_head, sta_fold, stepS, h0, h1]
    · have h3 := h2
      unfold servS at h3
      rw [show List.filter (fun b => decide (b.f = s.fl) && freeS r s.hd (headS r s) b) s.ws = servS r s from rfl]
      simp [h2, stepS, h0, h1]
      rw [compC_eq (fun b : Bt => .dat b.e) (fun b => !(servS r s).contains b) Bt.e _ _ fun b _ => by simp]
      simp [sta_fold]
@[simp] theorem ev_done (r : Ru) (s : Sta) (e : Evn) (hl : s.ws.length ≤ 1000) : evF (PT own) (k + 5) 27 [.dat r.e, .dat s.e, .dat e.e] h = .ok (.dat (stE (doneS r s e))) h := by
  refine evF_pure (fd := fd_done) (by rfl) rfl rfl ?_ h
  have e0 : PyData.tuple [.str s_step] = Evn.step.e := rfl
  cases e with
  | step => simp [fd_done, e0, hl, doneS]
  | press b => simp [fd_done, e0, hl, doneS]
end
end L2.LC

set_option maxHeartbeats 1000000
/-! LS: the law's own steps are the program's. -/
namespace L2.LC
open PySem
/-! ### least and greatest of ints -/
def minL (x : Int) (xs : List Int) : Int := xs.foldl (fun a y => if y < a then y else a) x
def maxL (x : Int) (xs : List Int) : Int := xs.foldl (fun a y => if a < y then y else a) x
theorem minL_spec (x : Int) (xs : List Int) : minL x xs ∈ x :: xs ∧ ∀ y ∈ x :: xs, minL x xs ≤ y := by
  induction xs generalizing x with
  | nil => simp [minL]
  | cons z zs ih =>
    have := ih (if z < x then z else x)
    simp only [minL, List.foldl_cons] at this ⊢
    obtain ⟨h1, h2⟩ := this
    refine ⟨?_, fun y hy => ?_⟩
    · rcases List.mem_cons.mp h1 with e | e
      · rw [e]; split <;> simp
      · simp [e]
    · have a := h2 _ List.mem_cons_self
      rcases List.mem_cons.mp hy with rfl | hy
      · generalize List.foldl _ _ zs = m at *
        split at a <;> omega
      · rcases List.mem_cons.mp hy with rfl | hy
        · generalize List.foldl _ _ zs = m at *
          split at a <;> omega
        · exact h2 y (by simp [hy])
theorem maxL_spec (x : Int) (xs : List Int) : maxL x xs ∈ x :: xs ∧ ∀ y ∈ x :: xs, y ≤ maxL x xs := by
  induction xs generalizing x with
  | nil => simp [maxL]
  | cons z zs ih =>
    have := ih (if x < z then z else x)
    simp only [maxL, List.foldl_cons] at this ⊢
    obtain ⟨h1, h2⟩ := this
    refine ⟨?_, fun y hy => ?_⟩
    · rcases List.mem_cons.mp h1 with e | e
      · rw [e]; split <;> simp
      · simp [e]
    · have a := h2 _ List.mem_cons_self
      rcases List.mem_cons.mp hy with rfl | hy
      · generalize List.foldl _ _ zs = m at *
        split at a <;> omega
      · rcases List.mem_cons.mp hy with rfl | hy
        · generalize List.foldl _ _ zs = m at *
          split at a <;> omega
        · exact h2 y (by simp [hy])
theorem dataLt_i (a b : Int) : W.dataLt (.int a) (.int b) = decide (a < b) := by
  simp [W.dataLt, W.keyToks, PyProof.Rows.lexLt, PyProof.Rows.itemLt]
theorem minD_i (x : Int) (xs : List Int) : W.minD (.int x) (xs.map .int) = .int (minL x xs) := by
  unfold W.minD minL
  induction xs generalizing x with
  | nil => rfl
  | cons y ys ih =>
    simp only [List.map_cons, List.foldl_cons, dataLt_i]
    rw [← ih]
    by_cases h : y < x <;> simp [h]
theorem maxD_i (x : Int) (xs : List Int) : W.maxD (.int x) (xs.map .int) = .int (maxL x xs) := by
  unfold W.maxD maxL
  induction xs generalizing x with
  | nil => rfl
  | cons y ys ih =>
    simp only [List.map_cons, List.foldl_cons, dataLt_i]
    rw [← ih]
    by_cases h : x < y <;> simp [h]
theorem extOk_i (xs : List Int) : extOk (xs.map .int) = true := by
  have hz : PyData.depthAll (xs.map .int) ≤ 1 := depthAll_le fun y hy => by
    obtain ⟨b, _, rfl⟩ := List.mem_map.mp hy
    simp [PyData.depth]
  simp only [extOk, allAlike, Bool.and_eq_true, decide_eq_true_eq]
  refine ⟨⟨?_, ?_⟩, by omega⟩
  · simp [List.all_eq_true, W.alike]
  · simp [List.all_eq_true, notNone]
/-- least of a list that has something -/
def minI : List Int → Int
  | [] => 0
  | x :: xs => minL x xs
def maxI : List Int → Int
  | [] => 0
  | x :: xs => maxL x xs
theorem minP_i (xs : List Int) (h : xs ≠ []) : minP [.list (xs.map .int)] = some (.int (minI xs)) := by
  cases xs with
  | nil => exact absurd rfl h
  | cons x xs =>
    have := extOk_i (x :: xs)
    simp only [List.map_cons] at this ⊢
    simp only [minP, this, if_true, minD_i, minI]
theorem maxP_i (xs : List Int) (h : xs ≠ []) : maxP [.list (xs.map .int)] = some (.int (maxI xs)) := by
  cases xs with
  | nil => exact absurd rfl h
  | cons x xs =>
    have := extOk_i (x :: xs)
    simp only [List.map_cons] at this ⊢
    simp only [maxP, this, if_true, maxD_i, maxI]
theorem minI_spec {xs : List Int} (h : xs ≠ []) : minI xs ∈ xs ∧ ∀ y ∈ xs, minI xs ≤ y := by
  cases xs with
  | nil => exact absurd rfl h
  | cons x xs => exact minL_spec x xs
theorem maxI_spec {xs : List Int} (h : xs ≠ []) : maxI xs ∈ xs ∧ ∀ y ∈ xs, y ≤ maxI xs := by
  cases xs with
  | nil => exact absurd rfl h
  | cons x xs => exact maxL_spec x xs
/-- mapped forms -/
@[simp] theorem minP_m {α : Type} (f : α → Int) (xs : List α) (h : xs ≠ []) : minP [.list (xs.map fun x => .int (f x))] = some (.int (minI (xs.map f))) := by
  have := minP_i (xs.map f) (by simpa using h)
  simpa [Function.comp_def] using this
@[simp] theorem maxP_m {α : Type} (f : α → Int) (xs : List α) (h : xs ≠ []) : maxP [.list (xs.map fun x => .int (f x))] = some (.int (maxI (xs.map f))) := by
  have := maxP_i (xs.map f) (by simpa using h)
  simpa [Function.comp_def] using this
/-! ### the nearest -/
theorem minNr_spec (x : Nr) (xs : List Nr) : minNr x xs ∈ x :: xs ∧ ∀ y ∈ x :: xs, y.lt (minNr x xs) = false := by
  have irr : ∀ a : Nr, a.lt a = false := fun a => by simp [Nr.lt]
  have tr2 : ∀ a b c : Nr, a.lt b = false → b.lt c = false → a.lt c = false := fun a b c h1 h2 => by
    simp only [Nr.lt, Bool.or_eq_false_iff, Bool.and_eq_false_iff, decide_eq_false_iff_not, Bool.not_eq_false', decide_eq_true_eq] at *
    omega
  induction xs generalizing x with
  | nil => simp [minNr, irr]
  | cons z zs ih =>
    have := ih (if z.lt x then z else x)
    simp only [minNr, List.foldl_cons] at this ⊢
    obtain ⟨h1, h2⟩ := this
    refine ⟨?_, fun y hy => ?_⟩
    · rcases List.mem_cons.mp h1 with e | e
      · rw [e]; split <;> simp
      · simp [e]
    · have a := h2 _ List.mem_cons_self
      cases q : z.lt x with
      | true =>
        simp only [q, if_true] at a h2 ⊢
        rcases List.mem_cons.mp hy with rfl | hy
        · refine tr2 _ z _ ?_ a
          simp only [Nr.lt, Bool.or_eq_false_iff, Bool.and_eq_false_iff, decide_eq_false_iff_not, Bool.not_eq_false', decide_eq_true_eq, Bool.or_eq_true, Bool.and_eq_true, Bool.not_eq_true', decide_eq_false_iff_not] at q ⊢
          omega
        · rcases List.mem_cons.mp hy with rfl | hy
          · exact a
          · exact h2 y (by simp [hy])
      | false =>
        simp only [q] at a h2 ⊢
        rcases List.mem_cons.mp hy with rfl | hy
        · exact a
        · rcases List.mem_cons.mp hy with rfl | hy
          · exact tr2 _ x _ q a
          · exact h2 y (by simp [hy])
theorem absI_or (x : Int) : (0 ≤ x ∧ absI x = x) ∨ (x < 0 ∧ absI x = -x) := by unfold absI; split <;> omega
theorem Nr.lt_f {a b : Nr} (h : a.lt b = false) : b.d ≤ a.d ∧ (a.d = b.d → bI b.o ≤ bI a.o) := by
  simp only [Nr.lt, Bool.or_eq_false_iff, Bool.and_eq_false_iff, decide_eq_false_iff_not, Bool.not_eq_false', decide_eq_true_eq] at h
  omega
theorem bI_dec (p : Prop) [Decidable p] : (p ∧ bI (decide p) = 1) ∨ (¬ p ∧ bI (decide p) = 0) := by
  by_cases h : p <;> simp [h, bI]
/-- the law's goal by the nearest -/
def nearL (s : Sta) : Int :=
  let near := minI (s.ws.map fun b => absI (b.f - s.fl))
  let some := (s.ws.filter fun b => decide (absI (b.f - s.fl) = near)).map (·.f)
  if s.hd = .down then minI some else maxI some
theorem near_same (s : Sta) (hw : s.ws ≠ []) : nearL s = nearS s := by
  cases hd : s.ws with
  | nil => exact absurd hd hw
  | cons b bs =>
    have sp := minNr_spec (nrOf s b) (bs.map (nrOf s))
    have hn : nearS s = (minNr (nrOf s b) (bs.map (nrOf s))).g := by simp [nearS, hd]
    rw [hn]
    generalize minNr (nrOf s b) (bs.map (nrOf s)) = m at sp
    obtain ⟨h1, h2⟩ := sp
    have h1' : m ∈ s.ws.map (nrOf s) := by rw [hd]; simpa using h1
    have h2' : ∀ c ∈ s.ws, (nrOf s c).lt m = false := fun c hc => h2 _ (by
      rw [hd] at hc
      rcases List.mem_cons.mp hc with rfl | hc
      · simp
      · exact List.mem_cons_of_mem _ (List.mem_map_of_mem hc))
    obtain ⟨c, hc, rfl⟩ := List.mem_map.mp h1'
    have hne : s.ws.map (fun b => absI (b.f - s.fl)) ≠ [] := by simpa using hw
    have hm := minI_spec hne
    unfold nearL
    generalize minI (s.ws.map fun b => absI (b.f - s.fl)) = near at hm
    obtain ⟨m1, m2⟩ := hm
    have hcn : absI (c.f - s.fl) = near := by
      have a := m2 _ (List.mem_map_of_mem (f := fun b : Bt => absI (b.f - s.fl)) hc)
      obtain ⟨d, hd', e⟩ := List.mem_map.mp m1
      have b := (Nr.lt_f (h2' d hd')).1
      change absI (c.f - s.fl) ≤ absI (d.f - s.fl) at b
      omega
    have hin : c.f ∈ (s.ws.filter fun b => decide (absI (b.f - s.fl) = near)).map (·.f) := List.mem_map_of_mem (f := fun b : Bt => b.f) (by simp [hc, hcn])
    have hne2 : (s.ws.filter fun b => decide (absI (b.f - s.fl) = near)).map (·.f) ≠ [] := fun q => by rw [q] at hin; cases hin
    show (if s.hd = .down then minI _ else maxI _) = c.f
    have hcc := absI_or (c.f - s.fl)
    split
    · rename_i hdn
      obtain ⟨a1, a2⟩ := minI_spec hne2
      have a3 := a2 _ hin
      obtain ⟨d, hd1, e⟩ := List.mem_map.mp a1
      rw [← e] at a3 ⊢
      simp only [List.mem_filter, decide_eq_true_eq] at hd1
      have b := (Nr.lt_f (h2' d hd1.1)).2 (by show absI _ = absI _; omega)
      simp only [nrOf, hdn, if_true] at b
      have := bI_dec (s.fl < d.f)
      have := bI_dec (s.fl < c.f)
      have := absI_or (d.f - s.fl)
      have e2 := hd1.2
      omega
    · rename_i hdn
      obtain ⟨a1, a2⟩ := maxI_spec hne2
      have a3 := a2 _ hin
      obtain ⟨d, hd1, e⟩ := List.mem_map.mp a1
      rw [← e] at a3 ⊢
      simp only [List.mem_filter, decide_eq_true_eq] at hd1
      have b := (Nr.lt_f (h2' d hd1.1)).2 (by show absI _ = absI _; omega)
      simp only [nrOf, hdn, if_false] at b
      have := bI_dec (d.f < s.fl)
      have := bI_dec (c.f < s.fl)
      have := absI_or (d.f - s.fl)
      have e2 := hd1.2
      omega
/-! ### the law's direction -/
def ledS (r : Ru) (s : Sta) : Wd :=
  if s.ws = [] then .none else
  let goals := s.ws.map (·.f)
  let goal := if r.pk = .eldest then goals.headD 0 else if r.pk = .nearest then nearL s else
    if decide (s.fl < maxI goals) && !(decide (s.hd = .down) && decide (minI goals < s.fl)) then maxI goals else minI goals
  towardsS s.fl goal
theorem led_same (r : Ru) (s : Sta) : ledS r s = headS r s := by
  unfold ledS headS
  by_cases h0 : s.ws = []
  · simp [h0]
  simp only [h0, if_false]
  cases hp : r.pk with
  | eldest =>
    cases hw : s.ws with
    | nil => exact absurd hw h0
    | cons b bs => simp
  | nearest => simp [near_same s h0]
  | sweep =>
    have hne : s.ws.map (·.f) ≠ [] := by simpa using h0
    obtain ⟨a1, a2⟩ := minI_spec hne
    obtain ⟨b1, b2⟩ := maxI_spec hne
    have e1 : (s.ws.any fun b => decide (s.fl < b.f)) = decide (s.fl < maxI (s.ws.map (·.f))) := by
      rw [Bool.eq_iff_iff]
      simp only [List.any_eq_true, decide_eq_true_eq]
      constructor
      · rintro ⟨b, hb, q⟩
        have := b2 b.f (List.mem_map_of_mem hb)
        omega
      · intro q
        obtain ⟨b, hb, e⟩ := List.mem_map.mp b1
        exact ⟨b, hb, by omega⟩
    have e2 : (s.ws.any fun b => decide (b.f < s.fl)) = decide (minI (s.ws.map (·.f)) < s.fl) := by
      rw [Bool.eq_iff_iff]
      simp only [List.any_eq_true, decide_eq_true_eq]
      constructor
      · rintro ⟨b, hb, q⟩
        have := a2 b.f (List.mem_map_of_mem hb)
        omega
      · intro q
        obtain ⟨b, hb, e⟩ := List.mem_map.mp a1
        exact ⟨b, hb, by omega⟩
    rw [e1, e2]
    have := a2 _ b1
    generalize minI (s.ws.map (·.f)) = lo at *
    generalize maxI (s.ws.map (·.f)) = hi at *
    simp only [reduceCtorEq, if_false]
    by_cases c1 : s.fl < hi <;> by_cases c2 : lo < s.fl <;> by_cases c3 : s.hd = .down <;> simp only [c1, c2, c3, towardsS, decide_true, decide_false, Bool.and_true, Bool.and_false, Bool.not_true, Bool.not_false, Bool.true_and, Bool.false_and, if_true, if_false, Bool.false_eq_true] <;> (repeat' split) <;> first | rfl | (exfalso; omega)
end L2.LC

set_option maxHeartbeats 1000000
namespace L2.LC
open PySem
/-! ### its walks -/
@[simp] theorem atI_if {α : Type} (a b : α) (c : Prop) [Decidable c] : L2.atI [a, b] (if c then 1 else 0) = some (if c then b else a) := by split <;> rfl
section
variable (own : List FD) (k : Nat) (h : Hs)
@[simp] theorem ev_law_led (r : Ru) (s : Sta) : evF (PT own) (k + 1) 112 [.dat r.e, .dat s.e] h = .ok (.dat (.str (headS r s).s)) h := by
  rw [← led_same]
  refine evF_pure (fd := fd_law_led) (by rfl) rfl rfl ?_ h
  simp [fd_law_led, Function.comp_def]
  rw [compC_map (fun b : Bt => .dat b.e) (fun b => .int b.f) _ _ fun b _ => by simp]
  by_cases h0 : s.ws = []
  · simp [h0, ledS]; rfl
  have hd : ∀ q, deep (.list (s.ws.map fun x => .int x.f)) q = true := fun q => deepL (by
    have : PyData.depthAll (s.ws.map fun x => .int x.f) ≤ 1 := depthAll_le fun y hy => by
      obtain ⟨b, _, rfl⟩ := List.mem_map.mp hy
      simp [PyData.depth]
    simp only [PyData.depth]; omega) q
  have he : PyData.eqvAll (s.ws.map fun x => .int x.f) [] = false := by
    cases hw : s.ws with
    | nil => exact absurd hw h0
    | cons b bs => rfl
  have fin : ∀ g : Int, (if g = s.fl then s_none else if s.fl < g then s_up else s_down) = (towardsS s.fl g).s := fun g => by
    unfold towardsS
    split
    · rfl
    · split <;> rfl
  cases hp : r.pk with
  | eldest =>
    obtain ⟨b, bs, hw⟩ : ∃ b bs, s.ws = b :: bs := by cases hw : s.ws with | nil => exact absurd hw h0 | cons b bs => exact ⟨b, bs, rfl⟩
    have hh : s.ws[0]? = some b := by simp [hw]
    have hg : ledS r s = towardsS s.fl b.f := by simp [ledS, hw, hp]
    rw [hg]
    simp [hd, he, hp, h0, hh, fin]
  | nearest =>
    simp [hd, he, hp, h0, Function.comp_def]
    rw [compC_map (fun b : Bt => dI b.f) (fun b => .int (absI (b.f - s.fl))) _ _ fun b _ => by simp]
    simp [h0]
    have hne : s.ws.map (fun b => absI (b.f - s.fl)) ≠ [] := by simpa using h0
    have hm := minI_spec hne
    rw [compC_eq (fun b : Bt => dI b.f) (fun b => decide (absI (b.f - s.fl) = minI (s.ws.map fun b => absI (b.f - s.fl)))) (fun b => .int b.f) _ _ fun b _ => by simp]
    have hf : (s.ws.filter fun b => decide (absI (b.f - s.fl) = minI (s.ws.map fun b => absI (b.f - s.fl)))) ≠ [] := by
      obtain ⟨c, hc, e⟩ := List.mem_map.mp hm.1
      intro q
      have : c ∈ (s.ws.filter fun b => decide (absI (b.f - s.fl) = minI (s.ws.map fun b => absI (b.f - s.fl)))) := by
        rw [List.mem_filter]; exact ⟨hc, by simpa using e⟩
      rw [q] at this; cases this
    rw [show ledS r s = towardsS s.fl (nearL s) by simp [ledS, h0, hp]]
    simp [hf, fin]
    rfl
  | sweep =>
    simp [hd, he, hp, h0, Function.comp_def]
    by_cases c : s.fl < maxI (s.ws.map Bt.f) ∧ (¬s.hd = Wd.down ∨ s.fl ≤ minI (s.ws.map Bt.f))
    · have hg : ledS r s = towardsS s.fl (maxI (s.ws.map Bt.f)) := by
        show (if s.ws = [] then Wd.none else towardsS s.fl (if r.pk = .eldest then _ else if r.pk = .nearest then nearL s else if decide (s.fl < maxI (s.ws.map Bt.f)) && !(decide (s.hd = .down) && decide (minI (s.ws.map Bt.f) < s.fl)) then maxI (s.ws.map Bt.f) else minI (s.ws.map Bt.f))) = _
        simp [h0, hp, c]
      rw [hg, ← fin]
      simp [c]
    · have hg : ledS r s = towardsS s.fl (minI (s.ws.map Bt.f)) := by
        show (if s.ws = [] then Wd.none else towardsS s.fl (if r.pk = .eldest then _ else if r.pk = .nearest then nearL s else if decide (s.fl < maxI (s.ws.map Bt.f)) && !(decide (s.hd = .down) && decide (minI (s.ws.map Bt.f) < s.fl)) then maxI (s.ws.map Bt.f) else minI (s.ws.map Bt.f))) = _
        simp [h0, hp, c]
      rw [hg, ← fin]
      simp [c]
@[simp] theorem ev_law_is_free (r : Ru) (old new : Wd) (b : Bt) : evF (PT own) (k + 1) 113 [.dat r.e, .dat (.str old.s), .dat (.str new.s), .dat b.e] h = .ok (dB (freeS r old new b)) h := by
  refine evF_pure (fd := fd_law_is_free) (by rfl) rfl rfl ?_ h
  simp [fd_law_is_free, freeS]
  cases r.tk <;> simp
/-- the law's table of ways -/
def waysO : Ob := .dic [(s_up, dI 1), (s_down, dI (-1)), (s_none, dI 0)]
theorem idx_ways (r : Ru) (s : Sta) : idxD [waysO] (.ref 0) (.dat (.str (headS r s).s)) = some (dI (headS r s).way) := by
  have := head_in r s
  generalize headS r s = w at *
  cases w with
  | inn => contradiction
  | _ => rfl
theorem tl_fold (a : Int) (bs : List Bt) : PyData.tuple [.int a, .tuple (bs.map Bt.e)] = (⟨a, bs⟩ : Tl).e := rfl
theorem tl_fold0 (a : Int) : PyData.tuple [.int a, .tuple []] = (⟨a, []⟩ : Tl).e := rfl
theorem tl_fold1 (a : Int) (b : Bt) : PyData.tuple [.int a, .tuple [b.e]] = (⟨a, [b]⟩ : Tl).e := rfl
theorem st_fold (s : Sta) (t : Tl) : PyData.tuple [s.e, t.e] = stE (s, t) := rfl
@[simp] theorem ev_law_step (r : Ru) (s : Sta) (hl : s.ws.length ≤ 1000) : evF (PT own) (k + 2) 114 [.dat r.e, .dat s.e] h = .ok (.dat (stE (stepS r s))) h := by
  refine evF_pure (fd := fd_law_step) (by rfl) rfl rfl ?_ h
  by_cases h0 : 0 < s.door
  · by_cases h1 : s.door = 1 ∧ r.quick = true
    · simp [fd_law_step, h0, h1, Function.comp_def]
      rw [compC_eq (fun b : Bt => .dat b.e) (fun b => !decide (b.f = s.fl)) (fun b => .int b.f) _ _ fun b _ => by simp]
      by_cases h2 : (s.ws.filter fun b => !decide (b.f = s.fl)) = []
      · have h3 : (s.ws.any fun b => !decide (b.f = s.fl)) = false := by
          rw [List.any_eq_false]
          intro b hb q
          have : b ∈ s.ws.filter fun b => !decide (b.f = s.fl) := List.mem_filter.mpr ⟨hb, q⟩
          rw [h2] at this; cases this
        simp [h2, stepS, closeS, h3, h1, sta_fold, tl_fold0, st_fold]
      · have h3 : (s.ws.any fun b => !decide (b.f = s.fl)) = true := by
          rw [List.any_eq_true]
          obtain ⟨b, hb⟩ := List.exists_mem_of_ne_nil _ h2
          exact ⟨b, (List.mem_filter.mp hb).1, (List.mem_filter.mp hb).2⟩
        have := idx_ways r s
        simp only [waysO] at this
        simp [h2, stepS, closeS, h3, h1, sta_fold, tl_fold0, st_fold, this]
    · have hc : closeS r s = ⟨s.fl, s.hd, s.door - 1, s.ws⟩ := by
        unfold closeS
        rw [if_neg]
        simp only [Bool.and_eq_true, decide_eq_true_eq]
        exact fun q => h1 ⟨q.1, q.2.1⟩
      by_cases hd : s.door = 1
      · have hq : r.quick = false := by simpa [hd] using h1
        simp [fd_law_step, hd, hq, stepS, hc, sta_fold, tl_fold0, st_fold]
      · simp [fd_law_step, hd, h0, stepS, hc, sta_fold, tl_fold0, st_fold]
  by_cases h1 : s.ws = []
  · by_cases h2 : r.re = .home ∧ 0 < s.fl
    · have e : PyData.tuple [.int (s.fl - 1), .str s_down, .int 0, .tuple []] = (⟨s.fl - 1, .down, 0, []⟩ : Sta).e := rfl
      simp [fd_law_step, h0, h1, h2, stepS, e, tl_fold0, st_fold]
    · have e : PyData.tuple [.int s.fl, .str s_none, .int 0, .tuple []] = (⟨s.fl, .none, 0, []⟩ : Sta).e := rfl
      by_cases h3 : r.re = .home
      · have h4 : ¬ 0 < s.fl := fun q => h2 ⟨h3, q⟩
        simp [fd_law_step, h0, h1, h3, h4, stepS, e, tl_fold0, st_fold]
      · simp [fd_law_step, h0, h1, h3, stepS, e, tl_fold0, st_fold]
  · simp [fd_law_step, h0, h1, hl, Function.comp_def]
    rw [compC_eq (fun b : Bt => .dat b.e) (fun b => decide (b.f = s.fl) && freeS r s.hd (headS r s) b) Bt.e _ _ fun b _ => by simp]
    have hw := idx_ways r s
    simp only [waysO] at hw
    by_cases h2 : servS r s = []
    · have h3 := h2
      unfold servS at h3
      simp [h3, h2, hw, sta_fold, stepS, h0, h1, tl_fold0, st_fold]
    · have h3 := h2
      unfold servS at h3
      rw [show List.filter (fun b => decide (b.f = s.fl) && freeS r s.hd (headS r s) b) s.ws = servS r s from rfl]
      simp [h2, stepS, h0, h1]
      rw [compC_eq (fun b : Bt => .dat b.e) (fun b => !(servS r s).contains b) Bt.e _ _ fun b _ => by simp]
      simp [sta_fold, tl_fold, st_fold]
@[simp] theorem ev_law_done (r : Ru) (s : Sta) (e : Evn) (hl : s.ws.length ≤ 1000) : evF (PT own) (k + 3) 115 [.dat r.e, .dat s.e, .dat e.e] h = .ok (.dat (stE (doneS r s e))) h := by
  refine evF_pure (fd := fd_law_done) (by rfl) rfl rfl ?_ h
  have e0 : PyData.tuple [.str s_step] = Evn.step.e := rfl
  cases e with
  | step => simp [fd_law_done, e0, hl, doneS]
  | press b =>
    by_cases h0 : b ∈ s.ws
    · simp [fd_law_done, e0, h0, doneS, pressS, tl_fold0, st_fold]
    have hz : s.ws.length + 1 ≤ sizeLine := le_line _ (by omega)
    by_cases h1 : 0 < s.door ∧ b.f = s.fl ∧ freeS r s.hd s.hd b = true
    · simp [fd_law_done, e0, h0, h1, doneS, pressS, sta_fold, tl_fold1, st_fold]
    · by_cases h2 : r.pk = .eldest
      · simp [fd_law_done, e0, h0, h1, h2, doneS, pressS, hz, sta_fold2, tl_fold0, st_fold]
      · simp [fd_law_done, e0, h0, h1, h2, doneS, pressS, hz, sta_fold, tl_fold0, st_fold]
end
end L2.LC

set_option maxHeartbeats 1000000
/-! LS: what laws draw. -/
namespace L2.LC
open PySem
theorem cut_from {α : Type} (xs : List α) (n : Nat) : cut xs (some (n : Int)) none = xs.drop n := by
  simp only [cut, HT.sIx_nat, HT.sIx_none]
  by_cases h : n ≤ xs.length
  · rw [Nat.min_eq_left h, List.take_of_length_le (by simp)]
  · rw [Nat.min_eq_right (by omega)]
    simp; omega
theorem cut_to {α : Type} (xs : List α) (n : Nat) : cut xs none (some (n : Int)) = xs.take n := by
  simp only [cut, HT.sIx_nat, HT.sIx_none]
  by_cases h : n ≤ xs.length
  · rw [Nat.min_eq_left h]; simp
  · rw [Nat.min_eq_right (by omega), List.take_of_length_le (i := n) (by omega)]; simp
@[simp] theorem cut_1 {α : Type} (xs : List α) : cut xs (some 1) none = xs.drop 1 := cut_from xs 1
@[simp] theorem cut_m1 {α : Type} (xs : List α) : cut xs none (some (-1)) = xs.dropLast := by
  simp only [cut, HT.sIx_none, HT.sIx]
  rw [List.dropLast_eq_take]
  simp
  congr 1
  omega
/-- the drawing state of a law -/
def mO (gs : List Int) (sd tn : Int) : Ob := .dic [(s_great, dL (gs.map .int)), (s_seed, dI sd), (s_turns, dI tn)]
/-- so many draws may still come -/
def MSt (F : Nat) (o : Ob) : Prop := ∃ gs sd tn, o = mO gs sd tn ∧ gs.length ≤ 1000 ∧ 0 ≤ tn ∧ tn + F ≤ 2 ^ 60
theorem MSt.less {F F' : Nat} {o : Ob} (m : MSt F o) (h : F' ≤ F) : MSt F' o := by
  obtain ⟨gs, sd, tn, e, a, b, c⟩ := m
  exact ⟨gs, sd, tn, e, a, b, by omega⟩
section
variable (gs gs' : List Int) (sd tn tn' : Int) (hs : Hs)
@[simp] theorem idx_mg : idxD (mO gs sd tn :: hs) (.ref 0) (.dat (.str s_great)) = some (.dat (.list (gs.map .int))) := rfl
@[simp] theorem idx_ms : idxD (mO gs sd tn :: hs) (.ref 0) (.dat (.str s_seed)) = some (.dat (.int sd)) := rfl
@[simp] theorem idx_mt : idxD (mO gs sd tn :: hs) (.ref 0) (.dat (.str s_turns)) = some (.dat (.int tn)) := rfl
@[simp] theorem put_mg : putD (mO gs sd tn :: hs) (.ref 0) (.dat (.str s_great)) (.dat (.list (gs'.map .int))) = some (mO gs' sd tn :: hs) := rfl
@[simp] theorem put_mg' (x : Int) : putD (mO gs sd tn :: hs) (.ref 0) (.dat (.str s_great)) (.dat (.list (.int x :: gs'.map .int))) = some (mO (x :: gs') sd tn :: hs) := rfl
@[simp] theorem put_mt : putD (mO gs sd tn :: hs) (.ref 0) (.dat (.str s_turns)) (.dat (.int tn')) = some (mO gs sd tn' :: hs) := rfl
end
@[simp] theorem binP_mul (i j : Int) : binP .mul (.int i) (.int j) = if small i || small j then some (.int (i * j)) else none := rfl
@[simp] theorem binP_mod (i j : Int) : binP .mod (.int i) (.int j) = if 0 < j then some (.int (i % j)) else none := rfl
@[simp] theorem binP_fdiv (i j : Int) : binP .fdiv (.int i) (.int j) = if 0 < j ∧ j < 1073741824 then some (.int (i / j)) else none := rfl
theorem small_of {i : Int} (h1 : -(2 ^ 63) ≤ i) (h2 : i ≤ 2 ^ 63) : small i = true := by simp only [small, Bool.and_eq_true, decide_eq_true_eq]; omega
section
variable {own : List FD} {k : Nat} {hs : Hs} {o : Ob}
theorem wp_draw {F : Nat} {limit : Int} {P : D → Hs → Prop} (m : MSt (F + 1) o) (h1 : 1 ≤ limit) (h2 : limit ≤ 1000000) (q : ∀ r o', 0 ≤ r → r < limit → MSt F o' → P (.dat (.int r)) (o' :: hs)) : Wp (evF (PT own) (k + 1) 106 [.ref 0, .dat (.int limit)] (o :: hs)) P := by
  obtain ⟨gs, sd, tn, rfl, a, b, c⟩ := m
  refine evF_wp (fd := fd_law_draw) (by rfl) rfl rfl ?_
  simp [fd_law_draw]
  refine whlC_wp (fun n ρ h => ∃ gs', gs'.length = n ∧ n ≤ 1000 ∧ ρ = [some (.ref 0), some (dI limit), none, none] ∧ h = mO gs' sd tn :: hs) ?_ turns gs.length (by have : turns = 2 ^ 64 := rfl; omega) _ _ ⟨gs, rfl, a, rfl, rfl⟩
  rintro n ρ h ⟨gs', hl, hn, rfl, rfl⟩
  have l0 : 0 < limit := by omega
  have l2 : limit < 1073741824 := by omega
  have s1 : small 48271 = true := rfl
  have s2 : small 16807 = true := rfl
  have s3 : small 69621 = true := rfl
  have s4 : small 40014 = true := rfl
  have s5 : small (tn + 1) = true := small_of (by omega) (by omega)
  cases gs' with
  | nil =>
    simp [l0, l2, s1, s2, s3, s4, s5]
    exact q _ _ (Int.emod_nonneg _ (by omega)) (Int.emod_lt_of_pos _ l0) ⟨[], sd, tn + 1, rfl, by simp, by omega, by omega⟩
  | cons g gs' =>
    simp only [List.length_cons] at hl
    by_cases hg : g = 0
    · simp [hg]
      exact ⟨by omega, gs'.length, by omega, gs', rfl, by omega, rfl⟩
    · have hz : 1 + gs'.length ≤ sizeLine := le_line _ (by omega)
      simp [hg, l0, l2, hz]
      exact q _ _ (Int.emod_nonneg _ (by omega)) (Int.emod_lt_of_pos _ l0) ⟨g / limit :: gs', sd, tn, rfl, by simp; omega, by omega, by omega⟩
theorem wp_of {F : Nat} {ps : List PyData} {P : D → Hs → Prop} (m : MSt (F + 1) o) (h1 : ps ≠ []) (h2 : ps.length ≤ 1000000) (q : ∀ p o', p ∈ ps → MSt F o' → P (.dat p) (o' :: hs)) : Wp (evF (PT own) (k + 2) 107 [.ref 0, .dat (.list ps)] (o :: hs)) P := by
  refine evF_wp (fd := fd_law_of) (by rfl) rfl rfl ?_
  simp [fd_law_of]
  refine wp_draw m (by have := List.length_pos_iff.mpr h1; omega) (by omega) fun r o' h3 h4 m' => ?_
  obtain ⟨n, rfl⟩ := Int.eq_ofNat_of_zero_le h3
  have hn : n < ps.length := by omega
  simp [atI_nat, hn]
  exact q _ _ (by simp) m'
theorem wp_ofT {F : Nat} {ps : List PyData} {P : D → Hs → Prop} (m : MSt (F + 1) o) (h1 : ps ≠ []) (h2 : ps.length ≤ 1000000) (q : ∀ p o', p ∈ ps → MSt F o' → P (.dat p) (o' :: hs)) : Wp (evF (PT own) (k + 2) 107 [.ref 0, .dat (.tuple ps)] (o :: hs)) P := by
  refine evF_wp (fd := fd_law_of) (by rfl) rfl rfl ?_
  simp [fd_law_of]
  refine wp_draw m (by have := List.length_pos_iff.mpr h1; omega) (by omega) fun r o' h3 h4 m' => ?_
  obtain ⟨n, rfl⟩ := Int.eq_ofNat_of_zero_le h3
  have hn : n < ps.length := by omega
  simp [atI_nat, hn]
  exact q _ _ (by simp) m'
/-- the draws begin -/
theorem wp_begun {ns : List Int} {P : D → Hs → Prop} (hn : ns.length ≤ 63) (q : ∀ o', MSt (2 ^ 50) o' → P (.ref 0) [o']) : Wp (evF (PT own) (k + 1) 105 [.scr ns] []) P := by
  refine evF_wp (fd := fd_law_begun) (by rfl) rfl rfl ?_
  simp [fd_law_begun]
  refine forC_wp (fun i : Int => .dat (.int i)) (fun rest ρ st => ∃ sd a, ρ = [some (.scr ns), some (dI sd), a] ∧ st = []) ?_ ?_ ns _ _ ⟨11, none, rfl, rfl⟩
  · rintro x rest ρ st ⟨sd, a, rfl, rfl⟩
    have s3 : small 69621 = true := rfl
    simp [s3]
  · rintro ρ st ⟨sd, a, rfl, rfl⟩
    simp
    have hp : binP .pow (.int 10) (.int 18) = some (.int 1000000000000000000) := rfl
    rw [compC_eq (fun i : Int => .dat (.int i)) (fun i => decide (1000000000000000000 ≤ i)) (fun i => .int i) _ _ fun b _ => by simp [hp]]
    simp
    refine q _ ⟨_, sd, 0, rfl, ?_, by omega, by omega⟩
    have := List.length_filter_le (fun i : Int => decide (1000000000000000000 ≤ i)) ns
    omega
end
end L2.LC

set_option maxHeartbeats 1000000
/-! LS: drawn rules, states, plays. -/
namespace L2.LC
open PySem
def btOk (fl : Int) (b : Bt) : Bool := match b.w with
  | .inn => decide (0 ≤ b.f) && decide (b.f ≤ fl - 1)
  | .up => decide (0 ≤ b.f) && decide (b.f ≤ fl - 2)
  | .down => decide (1 ≤ b.f) && decide (b.f ≤ fl - 1)
  | .none => false
def rising (bs : List Bt) : Bool := (bs.zip (bs.drop 1)).all fun p => p.1.lt p.2
structure Ru.Ok (r : Ru) : Prop where
  f2 : 2 ≤ r.fl
  f6 : r.fl ≤ 6
  b1 : r.bs ≠ []
  b6 : r.bs.length ≤ 6
  bo : ∀ b ∈ r.bs, btOk r.fl b = true
  br : rising r.bs = true
  o1 : 1 ≤ r.op
  o3 : r.op ≤ 3
/-! ### order -/
theorem Bt.lt_irrefl (a : Bt) : a.lt a = false := by simp [Bt.lt]
theorem Bt.lt_trans {a b c : Bt} (h1 : a.lt b = true) (h2 : b.lt c = true) : a.lt c = true := by
  simp only [Bt.lt, Bool.or_eq_true, Bool.and_eq_true, decide_eq_true_eq] at *
  rcases h1 with h1 | ⟨e1, h1⟩ <;> rcases h2 with h2 | ⟨e2, h2⟩
  · left; omega
  · left; rw [← e2]; exact h1
  · left; rw [e1]; exact h2
  · right; exact ⟨e1.trans e2, by omega⟩
theorem Bt.lt_total (a b : Bt) : a.lt b = true ∨ a = b ∨ b.lt a = true := by
  cases a with | mk aw af => cases b with | mk bw bf =>
  simp only [Bt.lt, Bool.or_eq_true, Bool.and_eq_true, decide_eq_true_eq, Bt.mk.injEq]
  by_cases e : aw = bw
  · subst e; simp; omega
  · have : aw.n ≠ bw.n := fun q => e (Wd.n_inj.mp q)
    omega
theorem Bt.le_iff {a b : Bt} : a.le b = true ↔ a.lt b = true ∨ a = b := by
  simp only [Bt.le, Bool.not_eq_true']
  constructor
  · intro h
    rcases Bt.lt_total a b with q | q | q
    · exact .inl q
    · exact .inr q
    · rw [h] at q; cases q
  · rintro (h | rfl)
    · cases q : b.lt a with
      | false => rfl
      | true =>
        have := Bt.lt_trans h q
        rw [Bt.lt_irrefl] at this; cases this
    · exact Bt.lt_irrefl a
theorem Bt.le_trans (a b c : Bt) (h1 : a.le b = true) (h2 : b.le c = true) : a.le c = true := by
  rw [Bt.le_iff] at *
  rcases h1 with h1 | rfl
  · rcases h2 with h2 | rfl
    · exact .inl (Bt.lt_trans h1 h2)
    · exact .inl h1
  · exact h2
theorem Bt.le_total (a b : Bt) : (a.le b || b.le a) = true := by
  rw [Bool.or_eq_true, Bt.le_iff, Bt.le_iff]
  rcases Bt.lt_total a b with q | q | q
  · exact .inl (.inl q)
  · exact .inl (.inr q)
  · exact .inr (.inl q)
theorem sortB_perm (bs : List Bt) : (sortB bs).Perm bs := by
  rw [sortB, kSort_eq]; exact List.mergeSort_perm _ _
theorem sortB_sorted (bs : List Bt) : (sortB bs).Pairwise fun a b => a.le b = true := by
  rw [sortB, kSort_eq]; exact List.pairwise_mergeSort Bt.le_trans Bt.le_total _
@[simp] theorem sortB_length (bs : List Bt) : (sortB bs).length = bs.length := (sortB_perm bs).length_eq
@[simp] theorem sortB_mem (bs : List Bt) (b : Bt) : b ∈ sortB bs ↔ b ∈ bs := (sortB_perm bs).mem_iff
@[simp] theorem sortB_nil (bs : List Bt) : sortB bs = [] ↔ bs = [] := by
  rw [← List.length_eq_zero_iff, sortB_length, List.length_eq_zero_iff]
theorem sortB_lt {bs : List Bt} (h : bs.Nodup) : (sortB bs).Pairwise fun a b => a.lt b = true := by
  have h1 := sortB_sorted bs
  have h2 : (sortB bs).Pairwise (· ≠ ·) := (sortB_perm bs).nodup_iff.mpr h
  exact (h1.and h2).imp fun {a b} q => by
    rcases Bt.le_iff.mp q.1 with z | z
    · exact z
    · exact absurd z q.2
theorem rising_of : ∀ {bs : List Bt}, (bs.Pairwise fun a b => a.lt b = true) → rising bs = true
  | [], _ => rfl
  | [a], _ => rfl
  | a :: b :: bs, h => by
    have ih := rising_of (List.pairwise_cons.mp h).2
    simp only [rising, List.drop_succ_cons, List.drop_zero, List.zip_cons_cons, List.all_cons, Bool.and_eq_true] at ih ⊢
    exact ⟨(List.pairwise_cons.mp h).1 b (by simp), ih⟩
theorem of_rising : ∀ {bs : List Bt}, rising bs = true → bs.Pairwise fun a b => a.lt b = true
  | [], _ => .nil
  | [a], _ => by simp
  | a :: b :: bs, h => by
    simp only [rising, List.drop_succ_cons, List.drop_zero, List.zip_cons_cons, List.all_cons, Bool.and_eq_true] at h
    have ih := of_rising (bs := b :: bs) (by simpa [rising] using h.2)
    refine List.pairwise_cons.mpr ⟨fun c hc => ?_, ih⟩
    rcases List.mem_cons.mp hc with rfl | hc
    · exact h.1
    · exact Bt.lt_trans h.1 ((List.pairwise_cons.mp ih).1 c hc)
theorem rising_nodup {bs : List Bt} (h : rising bs = true) : bs.Nodup := (of_rising h).imp fun {a b} q e => by
  subst e; rw [Bt.lt_irrefl] at q; cases q
/-! ### all buttons of a house -/
def everyB (n : Nat) : List Bt := sortB ((List.range n).map (fun (k : Nat) => (⟨.inn, k⟩ : Bt)) ++ ((List.range (n - 1)).map (fun (k : Nat) => (⟨.up, k⟩ : Bt)) ++ (List.range (n - 1)).map (fun (k : Nat) => (⟨.down, 1 + k⟩ : Bt))))
theorem every_ok (n : Nat) (h2 : 2 ≤ n) (h6 : n ≤ 6) : (everyB n).Nodup ∧ (∀ b ∈ everyB n, btOk n b = true) ∧ 4 ≤ (everyB n).length ∧ (everyB n).length ≤ 16 := by
  have : n = 2 ∨ n = 3 ∨ n = 4 ∨ n = 5 ∨ n = 6 := by omega
  rcases this with rfl | rfl | rfl | rfl | rfl <;> decide +kernel
/-! ### the store's end -/
section
variable (hs : Hs) (x y z u : Ob) (l : List Ob)
@[simp] theorem at_end0 : (hs ++ l)[hs.length]? = l[0]? := by rw [List.getElem?_append_right (by omega)]; simp
@[simp] theorem at_end1 : (hs ++ l)[hs.length + 1]? = l[1]? := by rw [List.getElem?_append_right (by omega)]; simp
@[simp] theorem at_end2 : (hs ++ l)[hs.length + 2]? = l[2]? := by rw [List.getElem?_append_right (by omega)]; simp
@[simp] theorem set_end0 : (hs ++ l).set hs.length x = hs ++ l.set 0 x := by rw [List.set_append_right _ _ (by omega)]; simp
@[simp] theorem set_end1 : (hs ++ l).set (hs.length + 1) x = hs ++ l.set 1 x := by rw [List.set_append_right _ _ (by omega)]; simp
@[simp] theorem set_end2 : (hs ++ l).set (hs.length + 2) x = hs ++ l.set 2 x := by rw [List.set_append_right _ _ (by omega)]; simp
end
section
variable {own : List FD} {k : Nat} {hs : Hs} {o : Ob}
theorem eraseIdx_mapF {α β : Type} (f : α → β) : ∀ (xs : List α) (j : Nat), (xs.map f).eraseIdx j = (xs.eraseIdx j).map f
  | [], _ => rfl
  | x :: xs, 0 => rfl
  | x :: xs, j + 1 => by simp [eraseIdx_mapF f xs j]
theorem perm_erase {α : Type} : ∀ (xs : List α) (j : Nat) (h : j < xs.length), (xs[j] :: xs.eraseIdx j).Perm xs
  | x :: xs, 0, _ => .refl _
  | x :: xs, j + 1, h => by
    simp only [List.getElem_cons_succ, List.eraseIdx_cons_succ]
    exact (List.Perm.swap _ _ _).trans ((perm_erase xs j (by simpa using h)).cons x)
theorem seqIndex_nat {j n : Nat} (h : j < n) : seqIndex? (j : Int) n = some j := by
  have h1 : ¬ ((j : Int) < 0) := by omega
  simp only [seqIndex?, h1, if_false]
  simp [h]
theorem p63 : (1000001 : Int) ≤ 2 ^ 63 := by decide
theorem popIx_nat {xs : List D} {j : Nat} (hj : j < xs.length) (hl : xs.length ≤ 1000000) : popIx xs (some (j : Int)) = some j := by
  have h63 := p63
  rw [popIx]
  generalize (2 : Int) ^ 63 = b at *
  rw [if_pos ⟨by omega, by omega⟩]
  exact seqIndex_nat hj
theorem popAt_of {h : Hs} {n : Nat} {i : Option Int} {xs : List D} {k : Nat} {y : D} (e : h[n]? = some (.lst xs)) (e2 : popIx xs i = some k) (e3 : xs[k]? = some y) : popAt n i h = .ok y (h.set n (.lst (xs.eraseIdx k))) := by
  simp only [popAt, e, e2, e3]
theorem popAt_nat {h : Hs} {n j : Nat} {xs : List D} {y : D} (e : h[n]? = some (.lst xs)) (hj : xs[j]? = some y) (hl : xs.length ≤ 1000000) : popAt n (some (j : Int)) h = .ok y (h.set n (.lst (xs.eraseIdx j))) :=
  popAt_of e (popIx_nat (List.getElem?_eq_some_iff.mp hj).1 hl) hj
theorem wp_buttons {F most n : Nat} {P : D → Hs → Prop} (m : MSt (F + 20) o) (h2 : 2 ≤ n) (h6 : n ≤ 6) (m1 : 1 ≤ most) (m6 : most ≤ 6)
    (q : ∀ bs o' x y, bs ≠ [] → bs.length ≤ most → (∀ b ∈ bs, btOk n b = true) → rising bs = true → MSt F o' → P (.dat (.tuple (bs.map Bt.e))) (o' :: (hs ++ [x, y]))) : Wp (evF (PT own) (k + 2) 108 [.ref 0, .dat (.int n), .dat (.int most)] (o :: hs)) P := by
  refine evF_wp (fd := fd_law_buttons) (by rfl) rfl rfl ?_
  have r1 : rngOk n = true := by simp [rngOk]; omega
  have r2 : rngOk (n - 1) = true := by simp [rngOk]; omega
  have r3 : rngOk 1 = true := rfl
  simp [fd_law_buttons, r1, r2, r3, rngL]
  rw [compC_map (fun k : Nat => .dat (.int k)) (fun k : Nat => (⟨.inn, k⟩ : Bt).e) _ _ fun b _ => by simp [Bt.e, Wd.s]]
  simp [r1, r2, r3, rngL]
  rw [compC_map (fun k : Nat => .dat (.int k)) (fun k : Nat => (⟨.up, k⟩ : Bt).e) _ _ fun b _ => by simp [Bt.e, Wd.s]]
  have z1 : n + (n - 1) ≤ sizeLine := le_line _ (by omega)
  have z2 : n + (n - 1) + (n - 1) ≤ sizeLine := le_line _ (by omega)
  simp [z1, r1, r2, r3, rngL]
  rw [compC_map (fun k : Nat => .dat (.int (1 + (k : Int)))) (fun k : Nat => (⟨.down, 1 + (k : Int)⟩ : Bt).e) _ _ fun b _ => by simp [Bt.e, Wd.s]]
  have es : sortP [.list (List.map (fun k : Nat => (⟨.inn, k⟩ : Bt).e) (List.range n) ++ (List.map (fun k : Nat => (⟨.up, k⟩ : Bt).e) (List.range (n - 1)) ++ List.map (fun k : Nat => (⟨.down, 1 + (k : Int)⟩ : Bt).e) (List.range (n - 1))))] = some (.list ((everyB n).map Bt.e)) := by
    have := sortP_bt ((List.range n).map (fun (k : Nat) => (⟨.inn, k⟩ : Bt)) ++ ((List.range (n - 1)).map (fun (k : Nat) => (⟨.up, k⟩ : Bt)) ++ (List.range (n - 1)).map (fun (k : Nat) => (⟨.down, 1 + k⟩ : Bt))))
    simpa [Function.comp_def, everyB] using this
  obtain ⟨ev1, ev2, ev3, ev4⟩ := every_ok n h2 h6
  simp [z2, es]
  refine wp_draw (F := F + 19) m ?_ ?_ fun r o' r0 rl m' => ?_
  · split <;> omega
  · split <;> omega
  obtain ⟨c, rfl⟩ := Int.eq_ofNat_of_zero_le r0
  have c1 : c + 1 ≤ most := by split at rl <;> omega
  have c2 : c + 1 ≤ (everyB n).length := by split at rl <;> omega
  have r4 : rngOk (1 + c) = true := by simp [rngOk]; omega
  have e1 : (1 + (c : Int)).toNat = c + 1 := by omega
  simp [r4, e1, rngL]
  refine forC_wp (fun k : Nat => dI k) (fun rest ρ st => ∃ o2 a lft fnd, ρ = [some (.ref 0), some (dI n), some (dI most), some (.ref (hs.length + 1)), a, some (.ref (hs.length + 2))] ∧ st = o2 :: (hs ++ [.lst (lft.map fun b : Bt => .dat b.e), .lst (fnd.map fun b : Bt => .dat b.e)]) ∧ (fnd ++ lft).Perm (everyB n) ∧ fnd.length + rest.length = c + 1 ∧ MSt (F + 19 - fnd.length) o2) ?_ ?_ (List.range (c + 1)) _ _ ⟨o', none, everyB n, [], rfl, by simp, by simp, by simp, m'⟩
  · rintro x rest ρ st ⟨o2, a, lft, fnd, rfl, rfl, hp, hl, m2⟩
    simp only [List.length_cons] at hl
    have hl2 := hp.length_eq
    simp only [List.length_append] at hl2
    simp
    refine wp_draw (F := F + 18 - fnd.length) (m2.less (by omega)) ?_ ?_ fun r o3 r0 rl m3 => ?_
    · omega
    · omega
    obtain ⟨j, rfl⟩ := Int.eq_ofNat_of_zero_le r0
    have hj : j < lft.length := by omega
    simp
    rw [popAt_nat (xs := lft.map fun b : Bt => .dat b.e) (y := .dat (lft[j]).e) (by simp) (by simp [hj]) (by simp; omega)]
    have hz : fnd.length < sizeLine := lt_line _ (by omega)
    simp [appAt, hz]
    refine ⟨o3, lft.eraseIdx j, fnd ++ [lft[j]], ?_, ?_, by simp; omega, by simpa using m3.less (by omega)⟩
    · simp [eraseIdx_mapF]
    · refine List.Perm.trans ?_ hp
      simp only [List.append_assoc]
      refine List.Perm.append_left fnd ?_
      exact perm_erase lft j hj
  · rintro ρ st ⟨o2, a, lft, fnd, rfl, rfl, hp, hl, m2⟩
    simp at hl
    simp
    have hn : (fnd ++ lft).Nodup := hp.nodup_iff.mpr ev1
    refine q _ _ _ _ ?_ ?_ ?_ ?_ (m2.less (by omega))
    · intro z; rw [sortB_nil] at z; subst z; simp at hl
    · rw [sortB_length]; omega
    · intro b hb
      rw [sortB_mem] at hb
      exact ev2 b (hp.mem_iff.mp (by simp [hb]))
    · exact rising_of (sortB_lt (List.nodup_append.mp hn).1)
theorem wp_rule {F most N : Nat} {P : D → Hs → Prop} (m : MSt (F + 40) o) (h2 : 2 ≤ N) (h6 : N ≤ 6) (m1 : 1 ≤ most) (m6 : most ≤ 6)
    (q : ∀ (r : Ru) o' ext, r.Ok → r.fl ≤ N → r.bs.length ≤ most → MSt F o' → P (.dat r.e) (o' :: (hs ++ ext))) : Wp (evF (PT own) (k + 3) 109 [.ref 0, .dat (.int N), .dat (.int most)] (o :: hs)) P := by
  refine evF_wp (fd := fd_law_rule) (by rfl) rfl rfl ?_
  simp [fd_law_rule]
  refine wp_draw (F := F + 39) m ?_ ?_ fun r o1 r0 rl m1' => ?_
  · omega
  · omega
  obtain ⟨c, rfl⟩ := Int.eq_ofNat_of_zero_le r0
  obtain ⟨n, e1⟩ : ∃ n : Nat, 2 + (c : Int) = n := ⟨2 + c, by omega⟩
  simp [e1]
  refine wp_buttons (F := F + 19) m1' (by omega) (by omega) m1 m6 fun bs o2 x y b1 b2 b3 b4 m2 => ?_
  simp
  refine wp_of (F := F + 18) m2 (by simp) (by simp) fun p o3 hp m3 => ?_
  obtain ⟨pk, rfl⟩ : ∃ pk : Pk, p = .str pk.s := by
    simp at hp
    rcases hp with rfl | rfl | rfl
    · exact ⟨.sweep, rfl⟩
    · exact ⟨.nearest, rfl⟩
    · exact ⟨.eldest, rfl⟩
  simp
  refine wp_of (F := F + 17) m3 (by simp) (by simp) fun p o4 hp m4 => ?_
  obtain ⟨re, rfl⟩ : ∃ re : Re, p = .str re.s := by
    simp at hp
    rcases hp with rfl | rfl
    · exact ⟨.stay, rfl⟩
    · exact ⟨.home, rfl⟩
  simp
  refine wp_draw (F := F + 16) m4 (by omega) (by omega) fun g1 o5 _ _ m5 => ?_
  simp
  refine wp_draw (F := F + 15) m5 (by omega) (by omega) fun g2 o6 _ _ m6 => ?_
  simp
  refine wp_draw (F := F + 14) m6 (by omega) (by omega) fun g3 o7 g30 g3l m7 => ?_
  simp
  refine wp_of (F := F + 13) m7 (by simp) (by simp) fun p o8 hp m8 => ?_
  obtain ⟨tk, rfl⟩ : ∃ tk : Tk, p = .str tk.s := by
    simp at hp
    rcases hp with rfl | rfl | rfl
    · exact ⟨.all, rfl⟩
    · exact ⟨.way, rfl⟩
    · exact ⟨.fin, rfl⟩
  simp
  exact q ⟨n, bs, pk, tk, re, decide (g1 = 0), decide (g2 = 0), 1 + g3⟩ o8 _ ⟨by simp only; omega, by simp only; omega, b1, by simp only; omega, b3, b4, by simp only; omega, by simp only; omega⟩ (by simp only; omega) b2 (m8.less (by omega))
end
end L2.LC

set_option maxHeartbeats 1000000
/-! LS: rules, states, plays that are right are let by. -/
namespace L2.LC
open PySem
def isWholeP (p : PyData) (lo hi : Int) : Bool := match p with
  | .int i => decide (lo ≤ i) && decide (i ≤ hi)
  | _ => false
def isWordP (p : PyData) (ws : List Str) : Bool := match p with
  | .str s => ws.contains s
  | _ => false
structure Sta.Ok (r : Ru) (s : Sta) : Prop where
  f0 : 0 ≤ s.fl
  fl : s.fl ≤ r.fl - 1
  hd : s.hd ≠ .inn
  d0 : 0 ≤ s.door
  dl : s.door ≤ r.op
  ws : ∀ b ∈ s.ws, b ∈ r.bs
  wn : if r.pk = .eldest then s.ws.Nodup else rising s.ws = true
def Evn.Ok (r : Ru) : Evn → Prop
  | .step => True
  | .press b => b ∈ r.bs
section
variable (own : List FD) (k : Nat) (h : Hs)
@[simp] theorem ev_is_whole (p : PyData) (lo hi : Int) : evF (PT own) (k + 1) 0 [.dat p, .dat (.int lo), .dat (.int hi)] h = .ok (.dat (.bool (isWholeP p lo hi))) h := by
  refine evF_pure (fd := fd_is_whole) (by rfl) rfl rfl ?_ h
  cases p <;> simp [fd_is_whole, isP, PyData.isInt, PyData.isBool, isWholeP]
theorem any_strs (ws : List Str) (s : Str) : (ws.map PyData.str).any (fun y => y.eqv (.str s)) = ws.contains s := by
  induction ws with
  | nil => rfl
  | cons a bs ih => simp only [List.map_cons, List.any_cons, ih, List.contains_cons, eqv_s]; congr 1; exact (decide_eq_decide.mpr eq_comm)
theorem ev_is_word (p : PyData) (ws : List Str) : evF (PT own) (k + 1) 1 [.dat p, .dat (.tuple (ws.map .str))] h = .ok (.dat (.bool (isWordP p ws))) h := by
  refine evF_pure (fd := fd_is_word) (by rfl) rfl rfl ?_ h
  cases p with
  | str s => have := any_strs ws s; simp [fd_is_word, isP, PyData.isStr, isWordP, -List.any_map, this]
  | _ => simp [fd_is_word, isP, PyData.isStr, isWordP]
@[simp] theorem ev_is_word3 (p : PyData) (a b c : Str) : evF (PT own) (k + 1) 1 [.dat p, .dat (.tuple [.str a, .str b, .str c])] h = .ok (.dat (.bool (isWordP p [a, b, c]))) h := ev_is_word own k h p [a, b, c]
@[simp] theorem ev_is_word2 (p : PyData) (a b : Str) : evF (PT own) (k + 1) 1 [.dat p, .dat (.tuple [.str a, .str b])] h = .ok (.dat (.bool (isWordP p [a, b]))) h := ev_is_word own k h p [a, b]
@[simp] theorem cmpD_ltB (a b : Bt) : cmpD h .lt (.dat a.e) (.dat b.e) = some (a.lt b) := by
  have : cmpD h .lt (.dat a.e) (.dat b.e) = ordP .lt a.e b.e := rfl
  rw [this]
  simp only [ordP, alike_bt, deep_Bt, Bool.and_self, if_true, dataLt_bt]
  rfl
@[simp] theorem ev_are_rising (bs : List Bt) : evF (PT own) (k + 1) 3 [.dat (.tuple (bs.map Bt.e))] h = .ok (.dat (.bool (rising bs))) h := by
  refine evF_pure (fd := fd_are_rising) (by rfl) rfl rfl ?_ h
  simp [fd_are_rising]
  have e : (List.map Bt.e bs).zip (List.map Bt.e bs).tail = (bs.zip (bs.drop 1)).map fun p => (p.1.e, p.2.e) := by
    rw [← List.map_tail, List.zip_map]
    simp [Prod.map]
  rw [e, List.map_map, Function.comp_def]
  rw [compC_map (fun p : Bt × Bt => .dat (.tuple [p.1.e, p.2.e])) (fun p => .bool (p.1.lt p.2)) _ _ fun p _ => by simp]
  simp [rising]
@[simp] theorem ev_are_risingL (bs : List Bt) : evF (PT own) (k + 1) 3 [.dat (.list (bs.map Bt.e))] h = .ok (.dat (.bool (rising bs))) h := by
  refine evF_pure (fd := fd_are_rising) (by rfl) rfl rfl ?_ h
  simp [fd_are_rising]
  have e : (List.map Bt.e bs).zip (List.map Bt.e bs).tail = (bs.zip (bs.drop 1)).map fun p => (p.1.e, p.2.e) := by
    rw [← List.map_tail, List.zip_map]
    simp [Prod.map]
  rw [e, List.map_map, Function.comp_def]
  rw [compC_map (fun p : Bt × Bt => .dat (.tuple [p.1.e, p.2.e])) (fun p => .bool (p.1.lt p.2)) _ _ fun p _ => by simp]
  simp [rising]
@[simp] theorem isP_tt (xs : List PyData) : isP .tuple (.tuple xs) = true := rfl
@[simp] theorem isP_bb (b : Bool) : isP .bool (.bool b) = true := rfl
@[simp] theorem isP_ss (s : Str) : isP .str (.str s) = true := rfl
@[simp] theorem isP_ii (i : Int) : isP .int (.int i) = true := rfl
@[simp] theorem isP_bi (i : Int) : isP .bool (.int i) = false := rfl
@[simp] theorem isP_tup (b : Bt) : isP .tuple b.e = true := rfl
@[simp] theorem lenP_bt (b : Bt) : lenP [b.e] = some (.int 2) := rfl
@[simp] theorem ev_is_button (fl : Int) (b : Bt) : evF (PT own) (k + 2) 2 [.dat (.int fl), .dat b.e] h = .ok (.dat (.bool (btOk fl b))) h := by
  refine evF_pure (fd := fd_is_button) (by rfl) rfl rfl ?_ h
  have hw : isWordP (.str b.w.s) [s_in, s_up, s_down] = !decide (b.w = .none) := by generalize b.w = w; cases w <;> decide
  cases hb : b.w with
  | none =>
    rw [hb] at hw
    simp [fd_is_button, hb, hw, btOk]
  | inn =>
    rw [hb] at hw
    simp [fd_is_button, hb, hw, btOk, isWholeP]
  | up =>
    rw [hb] at hw
    have e2 : fl - 1 - 1 = fl - 2 := by omega
    simp [fd_is_button, hb, hw, btOk, isWholeP, e2]
  | down =>
    rw [hb] at hw
    simp [fd_is_button, hb, hw, btOk, isWholeP]
@[simp] theorem ev_are_buttons (fl : Int) (bs : List Bt) (h1 : 2 ≤ fl) (h2 : fl ≤ 6) (h3 : bs ≠ []) (h4 : bs.length ≤ 6) : evF (PT own) (k + 3) 4 [.dat (.int fl), .dat (.tuple (bs.map Bt.e))] h = .ok (.dat (.bool (bs.all (btOk fl) && rising bs))) h := by
  refine evF_pure (fd := fd_are_buttons) (by rfl) rfl rfl ?_ h
  have h5 : 0 < bs.length := List.length_pos_iff.mpr h3
  have h6 : 1 ≤ bs.length := h5
  have h7 : (1 : Int) ≤ bs.length := by omega
  have h8 : (bs.length : Int) ≤ 6 := by omega
  simp [fd_are_buttons, isWholeP, h1, h2, h7, h8, Function.comp_def]
  rw [compC_map (fun b : Bt => .dat b.e) (fun b => .bool (btOk fl b)) _ _ fun p _ => by simp]
  cases q : bs.all (btOk fl) <;> simp [q]
@[simp] theorem ev_rule_fault (r : Ru) (ok : r.Ok) : evF (PT own) (k + 4) 5 [.dat r.e] h = .ok dN h := by
  refine evF_pure (fd := fd_rule_fault) (by rfl) rfl rfl ?_ h
  have e1 : isP .tuple r.e = true := rfl
  have e2 : lenP [r.e] = some (.int 8) := rfl
  have e3 : isWordP (.str r.pk.s) [s_sweep, s_nearest, s_eldest] = true := by cases r.pk <;> decide
  have e4 : isWordP (.str r.tk.s) [s_all, s_way, s_end] = true := by cases r.tk <;> decide
  have e5 : isWordP (.str r.re.s) [s_stay, s_home] = true := by cases r.re <;> decide
  have e6 : r.bs.all (btOk r.fl) = true := List.all_eq_true.mpr ok.bo
  simp [fd_rule_fault, e1, e2, e3, e4, e5, e6, isWholeP, ok.f2, ok.f6, ok.b1, ok.b6, ok.br, ok.o1, ok.o3]
  rw [show ∀ (a b c d e f g i : D), [a, b, c, d, e, f, g, i] = List.map id [a, b, c, d, e, f, g, i] from fun _ _ _ _ _ _ _ _ => rfl]
  rw [compC_eq (id : D → D) (fun _ => false) (fun _ => .none) _ _ fun x hx => ?_]
  · simp
  · simp at hx
    rcases hx with rfl | rfl | rfl | rfl | rfl | rfl | rfl | rfl <;> simp
@[simp] theorem ev_need_rule (r : Ru) (ok : r.Ok) : evF (PT own) (k + 5) 6 [.dat r.e] h = .ok (.dat r.e) h := by
  refine evF_pure (fd := fd_need_rule) (by rfl) rfl rfl ?_ h
  simp [fd_need_rule, ok]
@[simp] theorem ev_is_rule (r : Ru) (ok : r.Ok) : evF (PT own) (k + 5) 7 [.dat r.e] h = .ok (dB true) h := by
  refine evF_pure (fd := fd_is_rule) (by rfl) rfl rfl ?_ h
  simp [fd_is_rule, ok]
theorem Ru.Ok.fl_of {r : Ru} (ok : r.Ok) {b : Bt} (hb : b ∈ r.bs) : 0 ≤ b.f ∧ b.f ≤ r.fl - 1 ∧ b.w ≠ .none := by
  have := ok.bo b hb
  unfold btOk at this
  split at this <;> simp_all <;> omega
/-- a button of a rule -/
@[simp] theorem ev_is_of (r : Ru) (b : Bt) (ok : r.Ok) : evF (PT own) (k + 2) 11 [.dat r.e, .dat b.e] h = .ok (.dat (.bool (decide (b ∈ r.bs)))) h := by
  refine evF_pure (fd := fd_is_of) (by rfl) rfl rfl ?_ h
  by_cases hb : b ∈ r.bs
  · have := ok.fl_of hb
    simp [fd_is_of, hb, isWholeP, this]
  · simp [fd_is_of, hb]
@[simp] theorem isP_ev (e : Evn) : isP .tuple e.e = true := by cases e <;> rfl
@[simp] theorem ev_is_event_of (r : Ru) (e : Evn) (ok : r.Ok) (eo : e.Ok r) : evF (PT own) (k + 3) 19 [.dat r.e, .dat e.e] h = .ok (dB true) h := by
  refine evF_pure (fd := fd_is_event_of) (by rfl) rfl rfl ?_ h
  cases e with
  | step =>
    have e0 : PyData.tuple [.str s_step] = Evn.step.e := rfl
    have l1 : lenP [Evn.step.e] = some (.int 1) := rfl
    have i0 : idxD [] (.dat Evn.step.e) (dI 0) = some (.dat (.str s_step)) := rfl
    simp [fd_is_event_of, e0, l1, i0]
  | press b =>
    have hb : b ∈ r.bs := eo
    have l2 : lenP [(Evn.press b).e] = some (.int 2) := rfl
    simp [fd_is_event_of, l2, ok, hb]
end
end L2.LC

set_option maxHeartbeats 1000000
/-! LS: states stay states. -/
namespace L2.LC
open PySem
theorem Sta.Ok.nodup {r : Ru} {s : Sta} (ok : s.Ok r) : s.ws.Nodup := by
  have := ok.wn
  split at this
  · exact this
  · exact rising_nodup this
theorem nodup_len {α : Type} [DecidableEq α] {xs ys : List α} (h : xs.Nodup) (hs : ∀ x ∈ xs, x ∈ ys) : xs.length ≤ ys.length := by
  induction xs generalizing ys with
  | nil => simp
  | cons x xs ih =>
    have hx : x ∈ ys := hs x (by simp)
    have := ih (ys := ys.erase x) (List.nodup_cons.mp h).2 fun y hy => by
      rw [List.mem_erase_of_ne]
      · exact hs y (by simp [hy])
      · rintro rfl
        exact (List.nodup_cons.mp h).1 hy
    rw [List.length_erase_of_mem hx] at this
    have := List.length_pos_of_mem hx
    simp
    omega
theorem Sta.Ok.len {r : Ru} {s : Sta} (ok : s.Ok r) (ro : r.Ok) : s.ws.length ≤ 6 := Nat.le_trans (nodup_len ok.nodup ok.ws) ro.b6
theorem nearS_mem (s : Sta) (h : s.ws ≠ []) : ∃ b ∈ s.ws, b.f = nearS s := by
  cases hw : s.ws with
  | nil => exact absurd hw h
  | cons b bs =>
    have := (minNr_spec (nrOf s b) (bs.map (nrOf s))).1
    have e : nearS s = (minNr (nrOf s b) (bs.map (nrOf s))).g := by simp [nearS, hw]
    rw [e]
    generalize minNr (nrOf s b) (bs.map (nrOf s)) = m at this
    rcases List.mem_cons.mp this with rfl | hm
    · exact ⟨b, by simp, rfl⟩
    · obtain ⟨c, hc, rfl⟩ := List.mem_map.mp hm
      exact ⟨c, by simp [hc], rfl⟩
theorem towards_up {a b : Int} (h : towardsS a b = .up) : a < b := by
  unfold towardsS at h
  split at h
  · cases h
  · split at h
    · assumption
    · cases h
theorem towards_down {a b : Int} (h : towardsS a b = .down) : b < a := by
  unfold towardsS at h
  split at h
  · cases h
  · split at h
    · cases h
    · omega
theorem head_up {r : Ru} {s : Sta} (h : headS r s = .up) : ∃ b ∈ s.ws, s.fl < b.f := by
  unfold headS at h
  split at h; · cases h
  rename_i h0
  split at h
  · obtain ⟨b, hb, e⟩ := nearS_mem s h0
    exact ⟨b, hb, by rw [e]; exact towards_up h⟩
  split at h
  · split at h
    · cases h
    · rename_i b bs e
      exact ⟨b, by rw [e]; simp, towards_up h⟩
  split at h
  · rename_i c
    simp only [Bool.and_eq_true, List.any_eq_true, decide_eq_true_eq] at c
    exact c.1
  · split at h <;> cases h
theorem head_down {r : Ru} {s : Sta} (h : headS r s = .down) : ∃ b ∈ s.ws, b.f < s.fl := by
  unfold headS at h
  split at h; · cases h
  rename_i h0
  split at h
  · obtain ⟨b, hb, e⟩ := nearS_mem s h0
    exact ⟨b, hb, by rw [e]; exact towards_down h⟩
  split at h
  · split at h
    · cases h
    · rename_i b bs e
      exact ⟨b, by rw [e]; simp, towards_down h⟩
  split at h
  · cases h
  · split at h
    · rename_i c
      simp only [List.any_eq_true, decide_eq_true_eq] at c
      exact c
    · cases h
theorem way_in {r : Ru} {s : Sta} (ro : r.Ok) (ok : s.Ok r) : 0 ≤ s.fl + (headS r s).way ∧ s.fl + (headS r s).way ≤ r.fl - 1 := by
  have h0 := ok.f0
  have h1 := ok.fl
  cases q : headS r s with
  | up =>
    obtain ⟨b, hb, l⟩ := head_up q
    have := ro.fl_of (ok.ws b hb)
    simp only [Wd.way]; omega
  | down =>
    obtain ⟨b, hb, l⟩ := head_down q
    have := ro.fl_of (ok.ws b hb)
    simp only [Wd.way]; omega
  | inn => simp only [Wd.way]; omega
  | none => simp only [Wd.way]; omega
theorem wn_filter {r : Ru} {ws : List Bt} (h : if r.pk = .eldest then ws.Nodup else rising ws = true) (p : Bt → Bool) : if r.pk = .eldest then (ws.filter p).Nodup else rising (ws.filter p) = true := by
  split
  · rename_i e
    rw [if_pos e] at h
    exact h.filter p
  · rename_i e
    rw [if_neg e] at h
    exact rising_of ((of_rising h).filter p)
theorem step_ok {r : Ru} {s : Sta} (ro : r.Ok) (ok : s.Ok r) : (stepS r s).1.Ok r := by
  have w := way_in ro ok
  have hi := head_in r s
  have o1 := ro.o1
  unfold stepS
  split
  · rename_i hd
    show (closeS r s).Ok r
    unfold closeS
    have := ok.dl
    split
    · exact ⟨w.1, w.2, hi, by simp only; omega, by simp only; omega, ok.ws, ok.wn⟩
    · exact ⟨ok.f0, ok.fl, ok.hd, by simp only; omega, by simp only; omega, ok.ws, ok.wn⟩
  split
  · split
    · rename_i c
      simp only [Bool.and_eq_true, decide_eq_true_eq] at c
      have := ok.fl
      exact ⟨by simp only; omega, by simp only; omega, by simp, by simp, by simp only; omega, by simp, by simp [rising]⟩
    · exact ⟨ok.f0, ok.fl, by simp, by simp, by simp only; omega, by simp, by simp [rising]⟩
  split
  · exact ⟨w.1, w.2, hi, by simp, by simp only; omega, ok.ws, ok.wn⟩
  · refine ⟨ok.f0, ok.fl, hi, by simp only; omega, by simp, fun b hb => ok.ws b (List.mem_filter.mp hb).1, wn_filter ok.wn _⟩
theorem press_ok {r : Ru} {s : Sta} {b : Bt} (ro : r.Ok) (ok : s.Ok r) (hb : b ∈ r.bs) : (pressS r s b).1.Ok r := by
  have o1 := ro.o1
  unfold pressS
  split
  · exact ok
  rename_i hn
  simp at hn
  split
  · refine ⟨ok.f0, ok.fl, ok.hd, ?_, ?_, ok.ws, ok.wn⟩
    · simp only; split
      · omega
      · exact ok.d0
    · simp only; split
      · omega
      · exact ok.dl
  · have nd : (s.ws ++ [b]).Nodup := by
      rw [List.nodup_append]
      refine ⟨ok.nodup, by simp, fun a ha c hc => ?_⟩
      simp at hc
      subst hc
      rintro rfl
      exact hn ha
    refine ⟨ok.f0, ok.fl, ok.hd, ok.d0, ok.dl, fun c hc => ?_, ?_⟩
    · have : c ∈ s.ws ++ [b] := by
        simp only at hc
        split at hc
        · exact hc
        · exact (sortB_mem _ _).mp hc
      rcases List.mem_append.mp this with q | q
      · exact ok.ws c q
      · simp at q; rw [q]; exact hb
    · simp only
      split
      · exact nd
      · exact rising_of (sortB_lt nd)
theorem done_ok {r : Ru} {s : Sta} {e : Evn} (ro : r.Ok) (ok : s.Ok r) (eo : e.Ok r) : (doneS r s e).1.Ok r := by
  cases e with
  | step => exact step_ok ro ok
  | press b => exact press_ok ro ok eo
def startS : Sta := ⟨0, .none, 0, []⟩
theorem start_ok {r : Ru} (ro : r.Ok) : startS.Ok r := ⟨by simp [startS], by have := ro.f2; simp only [startS]; omega, by simp [startS], by simp [startS], by have := ro.o1; simp only [startS]; omega, by simp [startS], by simp [startS, rising]⟩
theorem startE : PyData.tuple [.int 0, .str s_none, .int 0, .tuple []] = startS.e := rfl
/-! ### rows of events -/
def pathS (r : Ru) : Sta → List Evn → List (Sta × Tl)
  | _, [] => []
  | s, e :: es => doneS r s e :: pathS r (doneS r s e).1 es
def lastS (r : Ru) : Sta → List Evn → Sta
  | s, [] => s
  | s, e :: es => lastS r (doneS r s e).1 es
def traceS (r : Ru) (s : Sta) (es : List Evn) : List Tl := (pathS r s es).map (·.2)
@[simp] theorem path_length (r : Ru) (s : Sta) (es : List Evn) : (pathS r s es).length = es.length := by
  induction es generalizing s with
  | nil => rfl
  | cons e es ih => simp [pathS, ih]
theorem lastS_ok {r : Ru} (ro : r.Ok) : ∀ {es : List Evn} {s : Sta}, s.Ok r → (∀ e ∈ es, e.Ok r) → (lastS r s es).Ok r
  | [], s, ok, _ => ok
  | e :: es, s, ok, eo => lastS_ok (es := es) (s := (doneS r s e).1) ro (done_ok ro ok (eo e (by simp))) fun x hx => eo x (by simp [hx])
theorem path_app (r : Ru) : ∀ (es fs : List Evn) (s : Sta), pathS r s (es ++ fs) = pathS r s es ++ pathS r (lastS r s es) fs
  | [], _, _ => rfl
  | e :: es, fs, s => by simp [pathS, lastS, path_app r es fs]
theorem last_app (r : Ru) : ∀ (es fs : List Evn) (s : Sta), lastS r s (es ++ fs) = lastS r (lastS r s es) fs
  | [], _, _ => rfl
  | e :: es, fs, s => by simp [lastS, last_app r es fs]
theorem path_last (r : Ru) : ∀ (es : List Evn) (s : Sta), es ≠ [] → (pathS r s es).getLast?.map (·.1) = some (lastS r s es)
  | [], _, h => absurd rfl h
  | [e], s, _ => by simp [pathS, lastS]
  | e :: f :: es, s, _ => by
    have := path_last r (f :: es) (doneS r s e).1 (by simp)
    simpa [pathS, lastS] using this
theorem path_last' (r : Ru) (es : List Evn) (s : Sta) (h : es ≠ []) : ∃ t, (pathS r s es).getLast? = some (lastS r s es, t) := by
  have := path_last r es s h
  cases q : (pathS r s es).getLast? with
  | none => rw [q] at this; cases this
  | some x =>
    rw [q] at this
    simp at this
    exact ⟨x.2, by rw [← this]⟩
theorem mapIdxE {α β γ : Type} (f : Nat → β → γ) (e : α → β) (xs : List α) : List.mapIdx f (xs.map e) = xs.zipIdx.map fun q => f q.2 (e q.1) := by
  rw [List.mapIdx_eq_zipIdx_map, List.zipIdx_map]
  simp [Function.comp_def]
section
variable (own : List FD) (k : Nat) (h : Hs)
theorem is_wd (s : Sta) (hd : s.hd ≠ .inn) : isWordP (.str s.hd.s) [s_up, s_down, s_none] = true := by
  generalize s.hd = w at *
  cases w <;> first | contradiction | decide
@[simp] theorem ev_are_wants (r : Ru) (s : Sta) (ro : r.Ok) (ok : s.Ok r) : evF (PT own) (k + 3) 12 [.dat r.e, .dat (.tuple (s.ws.map Bt.e))] h = .ok (dB true) h := by
  refine evF_pure (fd := fd_are_wants) (by rfl) rfl rfl ?_ h
  simp [fd_are_wants, Function.comp_def]
  rw [compC_map (fun b : Bt => .dat b.e) (fun b => .bool (decide (b ∈ r.bs))) _ _ fun p _ => by simp [ro]]
  have ha : (s.ws.all fun b => decide (b ∈ r.bs)) = true := by simp; exact ok.ws
  have wn := ok.wn
  by_cases e : r.pk = .eldest
  · rw [if_pos e] at wn
    simp [ha, e, rising_of (sortB_lt wn)]
  · rw [if_neg e] at wn
    simp [ha, e, wn]
@[simp] theorem ev_state_fault (r : Ru) (s : Sta) (ro : r.Ok) (ok : s.Ok r) : evF (PT own) (k + 4) 13 [.dat r.e, .dat s.e] h = .ok dN h := by
  refine evF_pure (fd := fd_state_fault) (by rfl) rfl rfl ?_ h
  have e1 : isP .tuple s.e = true := rfl
  have e2 : lenP [s.e] = some (.int 4) := rfl
  have e3 := is_wd s ok.hd
  simp [fd_state_fault, e1, e2, e3, isWholeP, ok.f0, ok.fl, ok.d0, ok.dl, ro, ok]
  rw [show ∀ (a b c d : D), [a, b, c, d] = List.map id [a, b, c, d] from fun _ _ _ _ => rfl]
  rw [compC_eq (id : D → D) (fun _ => false) (fun _ => .none) _ _ fun x hx => ?_]
  · simp
  · simp at hx
    rcases hx with rfl | rfl | rfl | rfl <;> simp
@[simp] theorem ev_need_state (r : Ru) (s : Sta) (ro : r.Ok) (ok : s.Ok r) : evF (PT own) (k + 6) 14 [.dat r.e, .dat s.e] h = .ok (.dat s.e) h := by
  refine evF_pure (fd := fd_need_state) (by rfl) rfl rfl ?_ h
  simp [fd_need_state, ro, ok]
@[simp] theorem ev_is_state (r : Ru) (s : Sta) (ro : r.Ok) (ok : s.Ok r) : evF (PT own) (k + 6) 15 [.dat r.e, .dat s.e] h = .ok (dB true) h := by
  refine evF_pure (fd := fd_is_state) (by rfl) rfl rfl ?_ h
  simp [fd_is_state, ro, ok]
@[simp] theorem ev_heading (r : Ru) (s : Sta) (ro : r.Ok) (ok : s.Ok r) : evF (PT own) (k + 7) 29 [.dat r.e, .dat s.e] h = .ok (.dat (.str (headS r s).s)) h := by
  refine evF_pure (fd := fd_heading) (by rfl) rfl rfl ?_ h
  have hl : s.ws.length ≤ 1000 := by have := ok.len ro; omega
  simp [fd_heading, ro, ok, hl]
@[simp] theorem ev_need_button (r : Ru) (b : Bt) (ro : r.Ok) (hb : b ∈ r.bs) : evF (PT own) (k + 3) 17 [.dat r.e, .dat b.e] h = .ok dN h := by
  refine evF_pure (fd := fd_need_button) (by rfl) rfl rfl ?_ h
  simp [fd_need_button, ro, hb]
@[simp] theorem ev_is_free (r : Ru) (s : Sta) (b : Bt) (ro : r.Ok) (ok : s.Ok r) (hb : b ∈ r.bs) : evF (PT own) (k + 7) 18 [.dat r.e, .dat s.e, .dat b.e] h = .ok (dB (freeS r s.hd s.hd b)) h := by
  refine evF_pure (fd := fd_is_free) (by rfl) rfl rfl ?_ h
  simp [fd_is_free, ro, ok, hb]
@[simp] theorem ev_step (r : Ru) (s : Sta) (e : Evn) (ro : r.Ok) (ok : s.Ok r) (eo : e.Ok r) : evF (PT own) (k + 7) 30 [.dat r.e, .dat s.e, .dat e.e] h = .ok (.dat (stE (doneS r s e))) h := by
  refine evF_pure (fd := fd_step) (by rfl) rfl rfl ?_ h
  have hl : s.ws.length ≤ 1000 := by have := ok.len ro; omega
  simp [fd_step, ro, ok, eo, hl]
@[simp] theorem ev_is_run (r : Ru) (es : List Evn) (ro : r.Ok) (eo : ∀ e ∈ es, e.Ok r) : evF (PT own) (k + 4) 31 [.dat r.e, .dat (.tuple (es.map Evn.e))] h = .ok (dB true) h := by
  refine evF_pure (fd := fd_is_run) (by rfl) rfl rfl ?_ h
  simp [fd_is_run, Function.comp_def]
  rw [compC_map (fun e : Evn => .dat e.e) (fun _ => .bool true) _ _ fun p hp => by simp [ro, eo p hp]]
  have := allP_bools (fun _ : Evn => true) es
  simp [this]
@[simp] theorem ev_need_play (r : Ru) (es : List Evn) (ro : r.Ok) (eo : ∀ e ∈ es, e.Ok r) (hl : es.length ≤ 300) : evF (PT own) (k + 6) 32 [.dat r.e, .dat (.tuple (es.map Evn.e))] h = .ok (.dat (.tuple (es.map Evn.e))) h := by
  refine evF_pure (fd := fd_need_play) (by rfl) rfl rfl ?_ h
  have hl2 : ¬ (300 : Int) < es.length := by omega
  simp [fd_need_play, ro, hl2]
  rw [mapIdxE]
  refine forC_wp (fun q : Evn × Nat => .dat (.tuple [.int q.2, q.1.e])) (fun rest ρ st => ∃ a b, ρ = [some (.dat r.e), some (.dat (.tuple (es.map Evn.e))), a, b] ∧ st = [] ∧ ∀ q ∈ rest, q.1.Ok r) ?_ ?_ es.zipIdx _ _ ⟨none, none, rfl, rfl, fun q hq => eo q.1 (List.fst_mem_of_mem_zipIdx hq)⟩
  · rintro x rest ρ st ⟨a, b, rfl, rfl, ho⟩
    simp [ro, ho x (by simp)]
    exact fun a b hb => ho (a, b) (by simp [hb])
  · rintro ρ st ⟨a, b, rfl, rfl, ho⟩
    simp
@[simp] theorem ev_is_play (r : Ru) (es : List Evn) (ro : r.Ok) (eo : ∀ e ∈ es, e.Ok r) (hl : es.length ≤ 300) : evF (PT own) (k + 6) 33 [.dat r.e, .dat (.tuple (es.map Evn.e))] h = .ok (dB true) h := by
  refine evF_pure (fd := fd_is_play) (by rfl) rfl rfl ?_ h
  have hl2 : (es.length : Int) ≤ 300 := by omega
  have := ev_is_run own (k + 1) [] r es ro eo
  simp [fd_is_play, ro, this, hl2]
theorem path_loop {r : Ru} (ro : r.Ok) : ∀ {es : List Evn} {s : Sta}, s.Ok r → (∀ e ∈ es, e.Ok r) → ∀ q ∈ pathS r s es, q.1.Ok r
  | [], s, _, _, q, hq => by cases hq
  | e :: es, s, ok, eo, q, hq => by
    have h1 := done_ok ro ok (eo e (by simp))
    rcases List.mem_cons.mp hq with rfl | hq
    · exact h1
    · exact path_loop ro h1 (fun x hx => eo x (by simp [hx])) q hq
@[simp] theorem bindT_st (a b : Tg) (q : Sta × Tl) (ρ : En) : bindT (.tup (.cons a (.cons b .nil))) (.dat (stE q)) ρ = (bindT a (.dat q.1.e) ρ).bind fun ρ' => bindT b (.dat q.2.e) ρ' := by
  simp [stE]
@[simp] theorem ev_path_from (r : Ru) (s : Sta) (es : List Evn) (ro : r.Ok) (ok : s.Ok r) (eo : ∀ e ∈ es, e.Ok r) (hl : es.length ≤ 100000) : evF (PT own) (k + 6) 34 [.dat r.e, .dat s.e, .dat (.tuple (es.map Evn.e))] h = .ok (.dat (.list ((pathS r s es).map stE))) h := by
  refine evF_pure (fd := fd_path_from) (by rfl) rfl rfl ?_ h
  simp [fd_path_from, Function.comp_def]
  refine forC_wp (fun e : Evn => .dat e.e) (fun rest ρ st => ∃ a b dn, dn ++ rest = es ∧ ρ = [some (.dat r.e), some (.dat (lastS r s dn).e), some (.dat (.tuple (es.map Evn.e))), some (.ref 0), a, b] ∧ st = [.lst ((pathS r s dn).map fun q => .dat (stE q))]) ?_ ?_ es _ _ ⟨none, none, [], by simp, rfl, by simp [pathS]⟩
  · rintro x rest ρ st ⟨a, b, dn, e, rfl, rfl⟩
    have hx : x.Ok r := eo x (by rw [← e]; simp)
    have ok2 : (lastS r s dn).Ok r := lastS_ok ro ok fun y hy => eo y (by rw [← e]; simp [hy])
    have l2 : (lastS r s dn).ws.length ≤ 1000 := by have := ok2.len ro; omega
    have hd : dn.length < sizeLine := lt_line _ (by have := congrArg List.length e; simp at this; omega)
    simp [l2, appAt, hd]
    exact ⟨_, _, dn ++ [x], by simpa using e, ⟨by simp [last_app, lastS], rfl, rfl⟩, by simp [path_app, pathS, stE]⟩
  · rintro ρ st ⟨a, b, dn, e, rfl, rfl⟩
    simp at e
    subst e
    simp [frzD]
@[simp] theorem ev_law_path (r : Ru) (s : Sta) (es : List Evn) (ro : r.Ok) (ok : s.Ok r) (eo : ∀ e ∈ es, e.Ok r) (hl : es.length ≤ 100000) : evF (PT own) (k + 4) 118 [.dat r.e, .dat s.e, .dat (.tuple (es.map Evn.e))] h = .ok (.dat (.list ((pathS r s es).map stE))) h := by
  refine evF_pure (fd := fd_law_path) (by rfl) rfl rfl ?_ h
  simp [fd_law_path, Function.comp_def]
  refine forC_wp (fun e : Evn => .dat e.e) (fun rest ρ st => ∃ a b dn, dn ++ rest = es ∧ ρ = [some (.dat r.e), some (.dat (lastS r s dn).e), some (.dat (.tuple (es.map Evn.e))), some (.ref 0), a, b] ∧ st = [.lst ((pathS r s dn).map fun q => .dat (stE q))]) ?_ ?_ es _ _ ⟨none, none, [], by simp, rfl, by simp [pathS]⟩
  · rintro x rest ρ st ⟨a, b, dn, e, rfl, rfl⟩
    have hx : x.Ok r := eo x (by rw [← e]; simp)
    have ok2 : (lastS r s dn).Ok r := lastS_ok ro ok fun y hy => eo y (by rw [← e]; simp [hy])
    have l2 : (lastS r s dn).ws.length ≤ 1000 := by have := ok2.len ro; omega
    have hd : dn.length < sizeLine := lt_line _ (by have := congrArg List.length e; simp at this; omega)
    simp [l2, appAt, hd]
    exact ⟨_, _, dn ++ [x], by simpa using e, ⟨by simp [last_app, lastS], rfl, rfl⟩, by simp [path_app, pathS, stE]⟩
  · rintro ρ st ⟨a, b, dn, e, rfl, rfl⟩
    simp at e
    subst e
    simp [frzD]
@[simp] theorem ev_trace_in (r : Ru) (es : List Evn) (ro : r.Ok) (eo : ∀ e ∈ es, e.Ok r) (hl : es.length ≤ 100000) : evF (PT own) (k + 7) 35 [.dat r.e, .dat (.tuple (es.map Evn.e))] h = .ok (.dat (.tuple ((traceS r startS es).map Tl.e))) h := by
  refine evF_pure (fd := fd_trace_in) (by rfl) rfl rfl ?_ h
  have so := start_ok ro
  have hp := fun k => ev_path_from own k [] r startS es ro so eo hl
  simp [fd_trace_in, startE, hp, Function.comp_def]
  rw [compC_map (fun q : Sta × Tl => .dat (stE q)) (fun q => q.2.e) _ _ fun p hp => by simp]
  simp [traceS, Function.comp_def]
@[simp] theorem ev_last_in (r : Ru) (es : List Evn) (ro : r.Ok) (eo : ∀ e ∈ es, e.Ok r) (hl : es.length ≤ 100000) : evF (PT own) (k + 7) 36 [.dat r.e, .dat (.tuple (es.map Evn.e))] h = .ok (.dat (lastS r startS es).e) h := by
  refine evF_pure (fd := fd_last_in) (by rfl) rfl rfl ?_ h
  have so := start_ok ro
  have hp := fun k => ev_path_from own k [] r startS es ro so eo hl
  by_cases he : es = []
  · subst he
    simp only [List.map_nil] at hp
    simp [fd_last_in, startE, hp, pathS, lastS]
  · obtain ⟨t, ht⟩ := path_last' r es startS he
    have hn : pathS r startS es ≠ [] := fun q => he (by have := path_length r startS es; rw [q] at this; exact List.length_eq_zero_iff.mp this.symm)
    simp [fd_last_in, startE, hp, hn, ht, stE]
@[simp] theorem ev_trace (r : Ru) (es : List Evn) (ro : r.Ok) (eo : ∀ e ∈ es, e.Ok r) (hl : es.length ≤ 300) : evF (PT own) (k + 8) 37 [.dat r.e, .dat (.tuple (es.map Evn.e))] h = .ok (.dat (.tuple ((traceS r startS es).map Tl.e))) h := by
  refine evF_pure (fd := fd_trace) (by rfl) rfl rfl ?_ h
  have h1 := fun k => ev_need_play own k [] r es ro eo hl
  have h2 := fun k => ev_trace_in own k [] r es ro eo (by omega)
  simp [fd_trace, h1, h2]
@[simp] theorem ev_last_state (r : Ru) (es : List Evn) (ro : r.Ok) (eo : ∀ e ∈ es, e.Ok r) (hl : es.length ≤ 300) : evF (PT own) (k + 8) 38 [.dat r.e, .dat (.tuple (es.map Evn.e))] h = .ok (.dat (lastS r startS es).e) h := by
  refine evF_pure (fd := fd_last_state) (by rfl) rfl rfl ?_ h
  have h1 := fun k => ev_need_play own k [] r es ro eo hl
  have h2 := fun k => ev_last_in own k [] r es ro eo (by omega)
  simp [fd_last_state, h1, h2]
end
section
variable {own : List FD} {k : Nat} {hs : Hs} {o : Ob}
theorem wp_play {F : Nat} {r : Ru} {n : Nat} {P : D → Hs → Prop} (m : MSt (F + 2 * n) o) (ro : r.Ok) (hn : n ≤ 300)
    (q : ∀ (es : List Evn) o' ext, es.length = n → (∀ e ∈ es, e.Ok r) → MSt F o' → P (.dat (.tuple (es.map Evn.e))) (o' :: (hs ++ ext))) : Wp (evF (PT own) (k + 3) 117 [.ref 0, .dat r.e, .dat (.int n)] (o :: hs)) P := by
  refine evF_wp (fd := fd_law_play) (by rfl) rfl rfl ?_
  have r4 : rngOk n = true := by simp [rngOk]; omega
  simp [fd_law_play, r4, rngL]
  refine forC_wp (fun k : Nat => dI k) (fun rest ρ st => ∃ o2 a es, ρ = [some (.ref 0), some (.dat r.e), some (dI n), some (.ref (hs.length + 1)), a] ∧ st = o2 :: (hs ++ [.lst (es.map fun e : Evn => .dat e.e)]) ∧ es.length + rest.length = n ∧ (∀ e ∈ es, e.Ok r) ∧ MSt (F + 2 * rest.length) o2) ?_ ?_ (List.range n) _ _ ⟨o, none, [], rfl, by simp, by simp, by simp, by simpa using m⟩
  · rintro x rest ρ st ⟨o2, a, es, rfl, rfl, hl, ho, m2⟩
    simp only [List.length_cons] at hl m2
    have hz : es.length < sizeLine := lt_line _ (by omega)
    simp
    refine wp_draw (F := F + 2 * rest.length + 1) (m2.less (by omega)) ?_ ?_ fun g o3 g0 gl m3 => ?_
    · omega
    · omega
    by_cases hg : 1 < g
    · simp [hg, appAt, hz]
      exact ⟨o3, es ++ [.step], by simp [Evn.e], by simp; omega, by intro e he; rcases List.mem_append.mp he with q | q; exact ho e q; simp at q; subst q; trivial, m3.less (by omega)⟩
    · simp [hg]
      refine wp_ofT (F := F + 2 * rest.length) m3 (by simpa using ro.b1) (by simp; have := ro.b6; omega) fun p o4 hp m4 => ?_
      obtain ⟨b, hb, rfl⟩ := List.mem_map.mp hp
      simp [appAt, hz]
      exact ⟨o4, es ++ [.press b], by simp [Evn.e], by simp; omega, by intro e he; rcases List.mem_append.mp he with q | q; exact ho e q; simp at q; subst q; exact hb, m4⟩
  · rintro ρ st ⟨o2, a, es, rfl, rfl, hl, ho, m2⟩
    simp at hl m2
    simp
    have := q es o2 [.lst (es.map fun e : Evn => .dat e.e)] hl ho m2
    simpa using this
end
end L2.LC

set_option maxHeartbeats 1000000
/-! LS: what can be shown. -/
namespace L2.LC
open PySem
structure Sh (p : PyData) (d n : Nat) : Prop where
  s : p.showable = true
  h : p.hasDict = false
  d : p.depth ≤ d
  n : p.shown.length ≤ n
theorem Sh.up {p : PyData} {d n d' n' : Nat} (s : Sh p d n) (h1 : d ≤ d') (h2 : n ≤ n') : Sh p d' n' := ⟨s.s, s.h, Nat.le_trans s.d h1, Nat.le_trans s.n h2⟩
theorem Sh.repr {p : PyData} {d n : Nat} (s : Sh p d n) (h1 : d ≤ 100) (h2 : n ≤ 1000000) : reprP [p] = some (.str p.shown) := by
  have a := s.s
  have b := s.h
  have c : p.depth ≤ 100 := Nat.le_trans s.d h1
  have e : p.shown.length ≤ sizeLine := le_line _ (Nat.le_trans s.n h2)
  simp [reprP, a, b, c, e]
theorem len_app (a b : Str) : (a ++ b).length = a.length + b.length := by
  show (a.cps ++ b.cps).size = _
  rw [Array.size_append]; rfl
theorem join_len (sep : Str) : ∀ (ts : List Str) (n : Nat), (∀ t ∈ ts, t.length ≤ n) → (Str.join sep ts).length ≤ ts.length * (n + sep.length)
  | [], n, _ => by simp [Str.join, Str.empty, Str.length]
  | [x], n, h => by
    have := h x (by simp)
    simp [Str.join]; omega
  | x :: y :: ts, n, h => by
    have ih := join_len sep (y :: ts) n fun t ht => h t (by simp [ht])
    have hx := h x (by simp)
    simp only [Str.join, len_app]
    simp only [List.length_cons, Nat.add_mul, Nat.one_mul] at ih ⊢
    omega
theorem shownAll_mem : ∀ {xs : List PyData} {t : Str}, t ∈ PyData.shownAll xs → ∃ x ∈ xs, t = x.shown
  | [], t, h => by simp [PyData.shownAll] at h
  | x :: xs, t, h => by
    simp only [PyData.shownAll, List.mem_cons] at h
    rcases h with rfl | h
    · exact ⟨x, by simp, rfl⟩
    · obtain ⟨y, hy, e⟩ := shownAll_mem h
      exact ⟨y, by simp [hy], e⟩
theorem shownAll_len (xs : List PyData) : (PyData.shownAll xs).length = xs.length := by
  induction xs with
  | nil => rfl
  | cons x xs ih => simp [PyData.shownAll, ih]
theorem showAll : ∀ {xs : List PyData}, (∀ x ∈ xs, x.showable = true) → PyData.showableAll xs = true
  | [], _ => rfl
  | x :: xs, h => by simp only [PyData.showableAll, h x (by simp), Bool.true_and]; exact showAll fun y hy => h y (by simp [hy])
theorem dictAll : ∀ {xs : List PyData}, (∀ x ∈ xs, x.hasDict = false) → PyData.hasDictAll xs = false
  | [], _ => rfl
  | x :: xs, h => by simp only [PyData.hasDictAll, h x (by simp), Bool.false_or]; exact dictAll fun y hy => h y (by simp [hy])
theorem len_str (s : String) : (Str.ofString s).length = s.length := by
  rw [Str.ofString_eq_toList]
  simp [Str.length, String.length_toList]
theorem Sh.tuple {xs : List PyData} {d n : Nat} (h : ∀ x ∈ xs, Sh x d n) : Sh (.tuple xs) (d + 1) (3 + xs.length * (n + 2)) := by
  refine ⟨?_, ?_, ?_, ?_⟩
  · simp only [PyData.showable]; exact showAll fun x hx => (h x hx).s
  · simp only [PyData.hasDict]; exact dictAll fun x hx => (h x hx).h
  · simp only [PyData.depth]
    have := depthAll_le fun x hx => (h x hx).d
    omega
  · simp only [PyData.shown, tupleText, len_app]
    have := join_len ", " (PyData.shownAll xs) n fun t ht => by
      obtain ⟨x, hx, rfl⟩ := shownAll_mem ht
      exact (h x hx).n
    rw [shownAll_len] at this
    have e1 : (Str.ofString "(").length = 1 := by rw [len_str]; rfl
    have e2 : (Str.ofString ", ").length = 2 := by rw [len_str]; rfl
    have e3 : (Str.ofString (if (PyData.shownAll xs).length == 1 then ",)" else ")")).length ≤ 2 := by rw [len_str]; split <;> decide
    rw [e2] at this
    rw [e1]
    omega
theorem textFrom_le : ∀ (ts : List Str) (k : Nat) (acc : Str) (n : Nat), (∀ t ∈ ts, t.length ≤ n) → (textFrom k acc ts).length ≤ acc.length + ts.length * (n + 2)
  | [], k, acc, n, _ => by simp [textFrom]
  | t :: ts, k, acc, n, h => by
    have ih := textFrom_le ts (k + 1) (acc ++ (if k > 0 then ", " else "" : String) ++ t) n fun u hu => h u (by simp [hu])
    have ht := h t (by simp)
    have e : (Str.ofString (if k > 0 then ", " else "")).length ≤ 2 := by rw [len_str]; split <;> decide
    simp only [textFrom]
    simp only [len_app] at ih
    simp only [List.length_cons, Nat.add_mul, Nat.one_mul] at ih ⊢
    omega
theorem Sh.list {xs : List PyData} {d n : Nat} (h : ∀ x ∈ xs, Sh x d n) : Sh (.list xs) (d + 1) (3 + xs.length * (n + 2)) := by
  refine ⟨?_, ?_, ?_, ?_⟩
  · simp only [PyData.showable]; exact showAll fun x hx => (h x hx).s
  · simp only [PyData.hasDict]; exact dictAll fun x hx => (h x hx).h
  · simp only [PyData.depth]
    have := depthAll_le fun x hx => (h x hx).d
    omega
  · simp only [PyData.shown, listText, len_app]
    have := textFrom_le (PyData.shownAll xs) 0 "[" n fun t ht => by
      obtain ⟨x, hx, rfl⟩ := shownAll_mem ht
      exact (h x hx).n
    rw [shownAll_len] at this
    have e1 : (Str.ofString "[").length = 1 := by rw [len_str]; rfl
    have e2 : (Str.ofString "]").length = 1 := by rw [len_str]; rfl
    rw [e1] at this
    rw [e2]
    omega
theorem sh_none : Sh .none 0 5 := ⟨rfl, rfl, by simp [PyData.depth], by simp only [PyData.shown]; rw [len_str]; decide⟩
theorem sh_bool (b : Bool) : Sh (.bool b) 0 5 := ⟨rfl, rfl, by simp [PyData.depth], by simp only [PyData.shown]; cases b <;> (simp only [Bool.false_eq_true, if_true, if_false]; rw [len_str]; decide)⟩
theorem sh_nat (n : Nat) (h : n < 400) : Sh (.int n) 0 3 := by
  refine ⟨?_, rfl, by simp [PyData.depth], ?_⟩
  · simp only [PyData.showable, decide_eq_true_eq, Int.natAbs_natCast]
    have : n.log2 ≤ n := by exact Nat.log2_le_self n
    omega
  · simp only [PyData.shown]
    rw [len_str]
    have : ∀ n : Fin 400, (toString ((n.val : Nat) : Int)).length ≤ 3 := by decide +kernel
    exact this ⟨n, h⟩
theorem sh_int (i : Int) (h0 : 0 ≤ i) (h : i < 400) : Sh (.int i) 0 3 := by
  obtain ⟨n, rfl⟩ := Int.eq_ofNat_of_zero_le h0
  exact sh_nat n (by omega)
theorem sh_str (s : Str) (n : Nat) (h : (reprText s).length ≤ n) : Sh (.str s) 0 n := ⟨rfl, rfl, by simp [PyData.depth], by simpa only [PyData.shown] using h⟩
theorem sh_wd (w : Wd) : Sh (.str w.s) 0 6 := sh_str _ _ (by cases w <;> decide +kernel)
theorem sh_bt {b : Bt} (h0 : 0 ≤ b.f) (h1 : b.f < 400) : Sh b.e 1 19 := by
  refine (Sh.tuple (d := 0) (n := 6) fun x hx => ?_).up (by omega) (by simp)
  simp at hx
  rcases hx with rfl | rfl
  · exact sh_wd _
  · exact (sh_int _ h0 h1).up (by omega) (by omega)
theorem sh_bts {bs : List Bt} (h : ∀ b ∈ bs, 0 ≤ b.f ∧ b.f < 400) : Sh (.tuple (bs.map Bt.e)) 2 (3 + bs.length * 21) := by
  have := Sh.tuple (xs := bs.map Bt.e) (d := 1) (n := 19) fun x hx => by
    obtain ⟨b, hb, rfl⟩ := List.mem_map.mp hx
    exact sh_bt (h b hb).1 (h b hb).2
  simpa using this
theorem sh_sta {r : Ru} {s : Sta} (ro : r.Ok) (ok : s.Ok r) : Sh s.e 3 600 := by
  have h6 := ok.len ro
  have h1 := ok.f0
  have h2 := ok.fl
  have h3 := ro.f6
  have h4 := ro.o3
  have h5 := ok.dl
  have h7 := ok.d0
  refine (Sh.tuple (d := 2) (n := 140) fun x hx => ?_).up (by omega) (by simp)
  simp at hx
  rcases hx with rfl | rfl | rfl | rfl
  · exact (sh_int _ h1 (by omega)).up (by omega) (by omega)
  · exact (sh_wd _).up (by omega) (by omega)
  · exact (sh_int _ h7 (by omega)).up (by omega) (by omega)
  · refine (sh_bts fun b hb => ?_).up (by omega) (by omega)
    have := ro.fl_of (ok.ws b hb)
    omega
structure Tl.Ok (r : Ru) (t : Tl) : Prop where
  f0 : 0 ≤ t.fl
  fl : t.fl ≤ r.fl - 1
  sv : ∀ b ∈ t.sv, b ∈ r.bs
  sn : rising t.sv = true
theorem tl_ok {r : Ru} {s : Sta} {e : Evn} (ro : r.Ok) (ok : s.Ok r) (eo : e.Ok r) : (doneS r s e).2.Ok r := by
  have d := done_ok ro ok eo
  have f : (doneS r s e).2.fl = (doneS r s e).1.fl := by
    cases e with
    | step =>
      simp only [doneS, stepS]
      split; · rfl
      split
      · split <;> rfl
      split <;> rfl
    | press b =>
      simp only [doneS, pressS]
      split; · rfl
      split <;> rfl
  refine ⟨by rw [f]; exact d.f0, by rw [f]; exact d.fl, ?_, ?_⟩
  · cases e with
    | step =>
      simp only [doneS, stepS]
      split; · simp
      split
      · split <;> simp
      split
      · simp
      · simp only [sortB_mem]
        exact fun b hb => ok.ws b (List.mem_filter.mp hb).1
    | press b =>
      simp only [doneS, pressS]
      split; · simp
      split
      · simp; exact eo
      · simp
  · cases e with
    | step =>
      simp only [doneS, stepS]
      split; · rfl
      split
      · split <;> rfl
      split
      · rfl
      · exact rising_of (sortB_lt (ok.nodup.filter _))
    | press b =>
      simp only [doneS, pressS]
      split; · rfl
      split <;> rfl
theorem sh_tl {r : Ru} {t : Tl} (ro : r.Ok) (ok : t.Ok r) : Sh t.e 3 300 := by
  have h1 := ok.f0
  have h2 := ok.fl
  have h3 := ro.f6
  have h6 : t.sv.length ≤ 6 := Nat.le_trans (nodup_len (rising_nodup ok.sn) ok.sv) ro.b6
  refine (Sh.tuple (d := 2) (n := 140) fun x hx => ?_).up (by omega) (by simp)
  simp at hx
  rcases hx with rfl | rfl
  · exact (sh_int _ h1 (by omega)).up (by omega) (by omega)
  · refine (sh_bts fun b hb => ?_).up (by omega) (by omega)
    have := ro.fl_of (ok.sv b hb)
    omega
theorem trace_tl {r : Ru} (ro : r.Ok) : ∀ {es : List Evn} {s : Sta}, s.Ok r → (∀ e ∈ es, e.Ok r) → ∀ t ∈ traceS r s es, t.Ok r
  | [], s, _, _, q, hq => by cases hq
  | e :: es, s, ok, eo, q, hq => by
    have h1 := done_ok ro ok (eo e (by simp))
    simp only [traceS, pathS, List.map_cons] at hq
    rcases List.mem_cons.mp hq with rfl | hq
    · exact tl_ok ro ok (eo e (by simp))
    · exact trace_tl ro h1 (fun x hx => eo x (by simp [hx])) q hq
theorem sh_trace {r : Ru} (ro : r.Ok) {es : List Evn} {s : Sta} (ok : s.Ok r) (eo : ∀ e ∈ es, e.Ok r) : Sh (.tuple ((traceS r s es).map Tl.e)) 4 (3 + es.length * 302) := by
  have := Sh.tuple (xs := (traceS r s es).map Tl.e) (d := 3) (n := 300) fun x hx => by
    obtain ⟨b, hb, rfl⟩ := List.mem_map.mp hx
    exact sh_tl ro (trace_tl ro ok eo b hb)
  simpa [traceS] using this
def Ru.okB (r : Ru) : Bool := decide (2 ≤ r.fl) && decide (r.fl ≤ 6) && !r.bs.isEmpty && decide (r.bs.length ≤ 6) && r.bs.all (btOk r.fl) && rising r.bs && decide (1 ≤ r.op) && decide (r.op ≤ 3)
theorem Ru.ok_of {r : Ru} (h : r.okB = true) : r.Ok := by
  simp only [Ru.okB, Bool.and_eq_true, decide_eq_true_eq, Bool.not_eq_true', List.isEmpty_eq_false_iff, List.all_eq_true] at h
  exact ⟨h.1.1.1.1.1.1.1, h.1.1.1.1.1.1.2, h.1.1.1.1.1.2, h.1.1.1.1.2, h.1.1.1.2, h.1.1.2, h.1.2, h.2⟩
end L2.LC

set_option maxHeartbeats 1000000
/-! LS: logs. -/
namespace L2.LC
open PySem
theorem eqvAll_tl (a b : List Tl) : PyData.eqvAll (a.map Tl.e) (b.map Tl.e) = decide (a = b) := eqvAll_map _ Tl.eqv a b
theorem eqvAll_ev (a b : List Evn) : PyData.eqvAll (a.map Evn.e) (b.map Evn.e) = decide (a = b) := eqvAll_map _ Evn.eqv a b
theorem deep_evs (es : List Evn) (q : PyData) : deep (.tuple (es.map Evn.e)) q = true := deepL (by
  have : PyData.depthAll (es.map Evn.e) ≤ 2 := depthAll_le fun x hx => by
    obtain ⟨e, _, rfl⟩ := List.mem_map.mp hx
    exact Evn.dep e
  simp only [PyData.depth]; omega) q
theorem deep_tls (es : List Tl) (q : PyData) : deep (.tuple (es.map Tl.e)) q = true := deepL (by
  have : PyData.depthAll (es.map Tl.e) ≤ 3 := depthAll_le fun x hx => by
    obtain ⟨e, _, rfl⟩ := List.mem_map.mp hx
    exact Tl.dep e
  simp only [PyData.depth]; omega) q
theorem trace_app (r : Ru) (s : Sta) (es fs : List Evn) : traceS r s (es ++ fs) = traceS r s es ++ traceS r (lastS r s es) fs := by simp [traceS, path_app]
theorem trace_one (r : Ru) (s : Sta) (e : Evn) : traceS r s [e] = [(doneS r s e).2] := rfl
@[simp] theorem trace_length (r : Ru) (s : Sta) (es : List Evn) : (traceS r s es).length = es.length := by simp [traceS]
/-- what may stand in a log -/
structure Tl.LogOk (t : Tl) : Prop where
  f0 : 0 ≤ t.fl
  f5 : t.fl ≤ 5
  sv : ∀ b ∈ t.sv, b.w ≠ .none ∧ 0 ≤ b.f ∧ b.f ≤ 5
  sn : rising t.sv = true
theorem Tl.Ok.log {r : Ru} {t : Tl} (ro : r.Ok) (ok : t.Ok r) : t.LogOk := by
  have := ro.f6
  have := ok.fl
  refine ⟨ok.f0, by omega, fun b hb => ?_, ok.sn⟩
  have := ro.fl_of (ok.sv b hb)
  exact ⟨this.2.2, this.1, by omega⟩
@[simp] theorem cut_t2 {α : Type} (xs : List α) : cut xs none (some 2) = xs.take 2 := cut_to xs 2
@[simp] theorem cut_f2 {α : Type} (xs : List α) : cut xs (some 2) none = xs.drop 2 := cut_from xs 2
@[simp] theorem cut_t3 {α : Type} (xs : List α) : cut xs none (some 3) = xs.take 3 := cut_to xs 3
@[simp] theorem cut_f3 {α : Type} (xs : List α) : cut xs (some 3) none = xs.drop 3 := cut_from xs 3
@[simp] theorem cut_t4 {α : Type} (xs : List α) : cut xs none (some 4) = xs.take 4 := cut_to xs 4
@[simp] theorem cut_f4 {α : Type} (xs : List α) : cut xs (some 4) none = xs.drop 4 := cut_from xs 4
@[simp] theorem cut_t5 {α : Type} (xs : List α) : cut xs none (some 5) = xs.take 5 := cut_to xs 5
@[simp] theorem cut_f5 {α : Type} (xs : List α) : cut xs (some 5) none = xs.drop 5 := cut_from xs 5
@[simp] theorem cut_t6 {α : Type} (xs : List α) : cut xs none (some 6) = xs.take 6 := cut_to xs 6
@[simp] theorem cut_f6 {α : Type} (xs : List α) : cut xs (some 6) none = xs.drop 6 := cut_from xs 6
@[simp] theorem cut_t7 {α : Type} (xs : List α) : cut xs none (some 7) = xs.take 7 := cut_to xs 7
@[simp] theorem cut_f7 {α : Type} (xs : List α) : cut xs (some 7) none = xs.drop 7 := cut_from xs 7
@[simp] theorem cut_t8 {α : Type} (xs : List α) : cut xs none (some 8) = xs.take 8 := cut_to xs 8
@[simp] theorem cut_f8 {α : Type} (xs : List α) : cut xs (some 8) none = xs.drop 8 := cut_from xs 8
@[simp] theorem cut_t1 {α : Type} (xs : List α) : cut xs none (some 1) = xs.take 1 := cut_to xs 1
@[simp] theorem slcP_Ru (r : Ru) (lo hi : Option Int) : slcP r.e lo hi = some (.tuple (cut [.int r.fl, .tuple (r.bs.map Bt.e), .str r.pk.s, .str r.tk.s, .str r.re.s, .bool r.hold, .bool r.quick, .int r.op] lo hi)) := rfl
@[simp] theorem idxD_ref (h : Hs) (n : Nat) (i : Int) : idxD h (.ref n) (.dat (.int i)) = (match h[n]? with | some (.lst xs) => (dats xs).bind fun ps => (L2.atI ps i).map .dat | _ => none) := by
  simp only [idxD, idxT, idxR, rd]
  cases q : h[n]? with
  | none => simp
  | some o =>
    cases o with
    | lst xs => simp; cases dats xs <;> simp [idxP]
    | tab kvs => simp [keyOk]
    | dic kvs => simp
    | gone => simp
section
variable (own : List FD) (k : Nat) (h : Hs)
@[simp] theorem ev_is_served (b : Bt) (hw : b.w ≠ .none) (h0 : 0 ≤ b.f) (h5 : b.f ≤ 5) : evF (PT own) (k + 2) 75 [.dat b.e] h = .ok (dB true) h := by
  refine evF_pure (fd := fd_is_served) (by rfl) rfl rfl ?_ h
  have hw2 : isWordP (.str b.w.s) [s_in, s_up, s_down] = true := by generalize b.w = w at *; cases w <;> first | contradiction | decide
  simp [fd_is_served, hw2, isWholeP, h0, h5]
@[simp] theorem ev_is_told (t : Tl) (ok : t.LogOk) : evF (PT own) (k + 3) 76 [.dat t.e] h = .ok (dB true) h := by
  refine evF_pure (fd := fd_is_told) (by rfl) rfl rfl ?_ h
  have e1 : isP .tuple t.e = true := rfl
  have e2 : lenP [t.e] = some (.int 2) := rfl
  simp [fd_is_told, e1, e2, isWholeP, ok.f0, ok.f5]
  rw [compC_map (fun b : Bt => .dat b.e) (fun _ => .bool true) _ _ fun p hp => by simp [(ok.sv p hp).1, (ok.sv p hp).2.1, (ok.sv p hp).2.2]]
  have := allP_bools (fun _ : Bt => true) t.sv
  simp [this, ok.sn]
theorem ev_need_log (ts : List Tl) (ok : ∀ t ∈ ts, t.LogOk) (hl : ts.length ≤ 200) : evF (PT own) (k + 4) 77 [.dat (.tuple (ts.map Tl.e))] h = .ok (.dat (.tuple (ts.map Tl.e))) h := by
  refine evF_pure (fd := fd_need_log) (by rfl) rfl rfl ?_ h
  have hl2 : ¬ (200 : Int) < ts.length := by omega
  simp [fd_need_log, hl2]
  rw [mapIdxE]
  refine forC_wp (fun q : Tl × Nat => .dat (.tuple [.int q.2, q.1.e])) (fun rest ρ st => ∃ a b, ρ = [some (.dat (.tuple (ts.map Tl.e))), a, b] ∧ st = [] ∧ ∀ q ∈ rest, q.1.LogOk) ?_ ?_ ts.zipIdx _ _ ⟨none, none, rfl, rfl, fun q hq => ok q.1 (List.fst_mem_of_mem_zipIdx hq)⟩
  · rintro x rest ρ st ⟨a, b, rfl, rfl, ho⟩
    simp [ho x (by simp)]
    exact fun a b hb => ho (a, b) (by simp [hb])
  · rintro ρ st ⟨a, b, rfl, rfl, ho⟩
    simp
theorem ev_fits (r : Ru) (es : List Evn) (ts : List Tl) (ro : r.Ok) (eo : ∀ e ∈ es, e.Ok r) (hl : es.length ≤ 300) (ok : ∀ t ∈ ts, t.LogOk) (ht : ts.length ≤ 200) : evF (PT own) (k + 8) 79 [.dat r.e, .dat (.tuple (es.map Evn.e)), .dat (.tuple (ts.map Tl.e))] h = .ok (.dat (.bool (decide (traceS r startS es = ts)))) h := by
  refine evF_pure (fd := fd_fits) (by rfl) rfl rfl ?_ h
  have h1 := fun k h => ev_need_play own k h r es ro eo hl
  have h2 := fun k h => ev_trace_in own k h r es ro eo (by omega)
  have h3 := fun k h => ev_need_log own k h ts ok ht
  simp [fd_fits, h1, h2, h3, deep_tls, eqvAll_tl]
theorem ev_need_rules (rs : List Ru) (n : Nat) (ro : ∀ r ∈ rs, r.Ok) (h1 : rs ≠ []) (h2 : rs.length ≤ n) : evF (PT own) (k + 6) 78 [.dat (.tuple (rs.map Ru.e)), .dat (.int n)] h = .ok dN h := by
  refine evF_pure (fd := fd_need_rules) (by rfl) rfl rfl ?_ h
  have h3 := List.length_pos_iff.mpr h1
  have h4 : (1 : Int) ≤ rs.length := by omega
  have h5 : (rs.length : Int) ≤ n := by omega
  simp [fd_need_rules, h4, h2, h5]
  refine forC_wp (fun r : Ru => .dat r.e) (fun rest ρ st => ∃ a, ρ = [some (.dat (.tuple (rs.map Ru.e))), some (dI n), a] ∧ st = [] ∧ ∀ q ∈ rest, q.Ok) ?_ ?_ rs _ _ ⟨none, rfl, rfl, ro⟩
  · rintro x rest ρ st ⟨a, rfl, rfl, ho⟩
    simp [ho x (by simp)]
    exact fun q hq => ho q (by simp [hq])
  · rintro ρ st ⟨a, rfl, rfl, ho⟩
    simp
/-- the same house -/
def Ru.like (a b : Ru) : Bool := decide (a.fl = b.fl) && decide (a.bs = b.bs)
theorem ev_need_like (r0 : Ru) (rs : List Ru) (hl : ∀ r ∈ r0 :: rs, r.like r0 = true) : evF (PT own) (k + 1) 50 [.dat (.tuple ((r0 :: rs).map Ru.e))] h = .ok dN h := by
  refine evF_pure (fd := fd_need_like) (by rfl) rfl rfl ?_ h
  simp [fd_need_like, -List.map_cons]
  have dp : ∀ (a b : Ru) , deep (.tuple [.int a.fl, .tuple (a.bs.map Bt.e)]) b.e = true := fun a b => by simp
  rw [compC_map (fun r : Ru => .dat r.e) (fun _ => .bool true) _ _ fun r hr => ?_]
  · have := allP_bools (fun _ : Ru => true) (r0 :: rs)
    simp [this, -List.map_cons]
  · have := hl r hr
    simp only [Ru.like, Bool.and_eq_true, decide_eq_true_eq] at this
    have d2 : ∀ q, deep (.tuple [.int r.fl, .tuple (r.bs.map Bt.e)]) q = true := fun q => deepL (by have := Bts.dep r.bs; simp only [PyData.depth, PyData.depthAll]; omega) q
    simp [PyData.eqvAll, this.1, this.2]
    rw [← this.1, ← this.2, d2]
    simp
theorem ev_rules_for (r0 : Ru) (rs : List Ru) (es : List Evn) (ts : List Tl) (ro : ∀ r ∈ r0 :: rs, r.Ok) (hlk : ∀ r ∈ r0 :: rs, r.like r0 = true) (hn : rs.length < 12) (eo : ∀ e ∈ es, e.Ok r0) (hl : es.length ≤ 300) (ok : ∀ t ∈ ts, t.LogOk) (ht : ts.length ≤ 200) :
    evF (PT own) (k + 8) 83 [.dat (.tuple ((r0 :: rs).map Ru.e)), .dat (.tuple (es.map Evn.e)), .dat (.tuple (ts.map Tl.e))] h = .ok (.dat (.list (((r0 :: rs).zipIdx.filter fun q => decide (traceS q.1 startS es = ts)).map fun q => .int q.2))) h := by
  refine evF_pure (fd := fd_rules_for) (by rfl) rfl rfl ?_ h
  have h1 : ∀ k h, evF (PT own) (k + 6) 78 [.dat (.tuple ((r0 :: rs).map Ru.e)), .dat (.int 12)] h = .ok dN h := fun k h => ev_need_rules own k h (r0 :: rs) 12 ro (by simp) (by simp; omega)
  have h2 := fun k h => ev_need_like own k h r0 rs hlk
  have h3 := fun k h => ev_need_play own k h r0 es (ro r0 (by simp)) eo hl
  have h4 := fun k h => ev_need_log own k h ts ok ht
  have h5 : ((List.map Ru.e (r0 :: rs))[0]?) = some r0.e := rfl
  simp [fd_rules_for, h1, h2, h3, h4, h5, -List.map_cons]
  rw [mapIdxE]
  rw [compC_eq (fun q : Ru × Nat => .dat (.tuple [.int q.2, q.1.e])) (fun q => decide (traceS q.1 startS es = ts)) (fun q => .int q.2) _ _ fun q hq => ?_]
  · simp
  · have hq1 : q.1 ∈ r0 :: rs := List.fst_mem_of_mem_zipIdx hq
    have lk := hlk q.1 hq1
    simp only [Ru.like, Bool.and_eq_true, decide_eq_true_eq] at lk
    have eo2 : ∀ e ∈ es, e.Ok q.1 := fun e he => by
      have := eo e he
      cases e with
      | step => trivial
      | press b => show b ∈ q.1.bs; rw [lk.2]; exact this
    have h6 := fun k h => ev_trace_in own k h q.1 es (ro q.1 hq1) eo2 (by omega)
    simp [h6, deep_tls, eqvAll_tl]
end
end L2.LC

set_option maxHeartbeats 1000000
/-! LS: searches level by level, in plain Lean; dicts with such keys. -/
namespace L2.LC
open PySem
/-! ### searches -/
section
variable {κ : Type} [DecidableEq κ] (start : κ) (succ : κ → Evn → κ) (bad : κ → Evn → Bool) (evs : List Evn)
def runK : κ → List Evn → κ
  | k, [] => k
  | k, e :: es => runK (succ k e) es
/-- nothing bad on the way -/
def fine : κ → List Evn → Bool
  | _, [] => true
  | k, e :: es => !bad k e && fine (succ k e) es
theorem runK_app : ∀ (es fs : List Evn) (k : κ), runK succ k (es ++ fs) = runK succ (runK succ k es) fs
  | [], _, _ => rfl
  | e :: es, fs, k => runK_app es fs (succ k e)
theorem fine_app : ∀ (es fs : List Evn) (k : κ), fine succ bad k (es ++ fs) = (fine succ bad k es && fine succ bad (runK succ k es) fs)
  | [], _, _ => by simp [fine, runK]
  | e :: es, fs, k => by simp [fine, runK, fine_app es fs (succ k e), Bool.and_assoc]
/-- where a search stands ahead of a level -/
structure BLv (d : Nat) (ks front : List κ) : Prop where
  nd : ks.Nodup
  fr : ∀ k ∈ front, k ∈ ks
  ex : ∀ k ∈ ks, k ∉ front → ∀ e ∈ evs, bad k e = false ∧ succ k e ∈ ks
  lv : ∀ es, (∀ e ∈ es, e ∈ evs) → es.length ≤ d → fine succ bad start es = true ∧ runK succ start es ∈ ks
  rc : ∀ k ∈ ks, ∃ es, (∀ e ∈ es, e ∈ evs) ∧ runK succ start es = k ∧ fine succ bad start es = true ∧ es.length ≤ d
  rf : ∀ k ∈ front, ∃ es, (∀ e ∈ es, e ∈ evs) ∧ runK succ start es = k ∧ fine succ bad start es = true ∧ es.length = d
theorem BLv.begin : BLv start succ bad evs 0 [start] [start] :=
  ⟨by simp, by simp, fun k hk hn => absurd hk hn, fun es he hl => by
    have : es = [] := List.length_eq_zero_iff.mp (by omega)
    subst this
    exact ⟨rfl, by simp [runK]⟩, fun k hk => ⟨[], by simp, by simp at hk; exact hk.symm, rfl, by simp⟩, fun k hk => ⟨[], by simp, by simp at hk; exact hk.symm, rfl, rfl⟩⟩
/-- within a level: some of the front are done, and some events of the next one -/
structure BMd (ks0 front : List κ) (dn : List κ) (h : κ) (de : List Evn) (later : List κ) : Prop where
  nd : (ks0 ++ later).Nodup
  dn : ∀ k ∈ dn, ∀ e ∈ evs, bad k e = false ∧ succ k e ∈ ks0 ++ later
  de : ∀ e ∈ de, bad h e = false ∧ succ h e ∈ ks0 ++ later
  lt : ∀ k ∈ later, ∃ h ∈ front, ∃ e ∈ evs, bad h e = false ∧ k = succ h e
variable {start succ bad evs}
theorem BMd.begin {d : Nat} {ks front : List κ} {h : κ} (l : BLv start succ bad evs d ks front) : BMd succ bad evs ks front [] h [] [] := ⟨by simpa using l.nd, by simp, by simp, by simp⟩
theorem BMd.next {ks0 front dn later : List κ} {h : κ} {de : List Evn} {e : Evn} (m : BMd succ bad evs ks0 front dn h de later) (hh : h ∈ front) (he : e ∈ evs) (hb : bad h e = false) :
    BMd succ bad evs ks0 front dn h (de ++ [e]) (if succ h e ∈ ks0 ++ later then later else later ++ [succ h e]) := by
  split
  · rename_i hi
    refine ⟨m.nd, m.dn, fun x hx => ?_, m.lt⟩
    rcases List.mem_append.mp hx with q | q
    · exact m.de x q
    · simp at q; subst q; exact ⟨hb, hi⟩
  · rename_i hi
    refine ⟨?_, fun k hk x hx => ?_, fun x hx => ?_, fun k hk => ?_⟩
    · rw [← List.append_assoc, List.nodup_append]
      refine ⟨m.nd, by simp, fun a ha b hb => ?_⟩
      simp at hb
      subst hb
      rintro rfl
      exact hi ha
    · have := m.dn k hk x hx
      exact ⟨this.1, by rw [← List.append_assoc]; exact List.mem_append_left _ this.2⟩
    · rcases List.mem_append.mp hx with q | q
      · have := m.de x q
        exact ⟨this.1, by rw [← List.append_assoc]; exact List.mem_append_left _ this.2⟩
      · simp at q; subst q; exact ⟨hb, by simp⟩
    · rcases List.mem_append.mp hk with q | q
      · exact m.lt k q
      · simp at q; subst q; exact ⟨h, hh, e, he, hb, rfl⟩
theorem BMd.move {ks0 front dn later : List κ} {h h' : κ} (m : BMd succ bad evs ks0 front dn h evs later) : BMd succ bad evs ks0 front (dn ++ [h]) h' [] later :=
  ⟨m.nd, fun k hk x hx => by
    rcases List.mem_append.mp hk with q | q
    · exact m.dn k q x hx
    · simp at q; subst q; exact m.de x hx, by simp, m.lt⟩
theorem BMd.done {d : Nat} {ks0 front later : List κ} {h : κ} (l : BLv start succ bad evs d ks0 front) (m : BMd succ bad evs ks0 front front h [] later) : BLv start succ bad evs (d + 1) (ks0 ++ later) later := by
  have ex : ∀ k ∈ ks0, ∀ e ∈ evs, bad k e = false ∧ succ k e ∈ ks0 ++ later := fun k hk e he => by
    by_cases hf : k ∈ front
    · exact m.dn k hf e he
    · have := l.ex k hk hf e he
      exact ⟨this.1, by simp [this.2]⟩
  have rf : ∀ k ∈ later, ∃ es, (∀ e ∈ es, e ∈ evs) ∧ runK succ start es = k ∧ fine succ bad start es = true ∧ es.length = d + 1 := fun k hk => by
    obtain ⟨h, hh, e, he, hb, rfl⟩ := m.lt k hk
    obtain ⟨es, e1, e2, e3, e4⟩ := l.rf h hh
    refine ⟨es ++ [e], fun x hx => ?_, by rw [runK_app, e2]; rfl, by rw [fine_app, e3, e2]; simp [fine, hb], by simp [e4]⟩
    rcases List.mem_append.mp hx with q | q
    · exact e1 x q
    · simp at q; subst q; exact he
  refine ⟨m.nd, fun k hk => by simp [hk], fun k hk hn e he => ?_, fun es he hl => ?_, fun k hk => ?_, rf⟩
  · rcases List.mem_append.mp hk with q | q
    · exact ex k q e he
    · exact absurd q hn
  · by_cases hz : es.length ≤ d
    · have := l.lv es he hz
      exact ⟨this.1, by simp [this.2]⟩
    · have hne : es ≠ [] := fun q => by subst q; simp at hz
      have e0 := List.dropLast_concat_getLast hne
      obtain ⟨fs, x, rfl⟩ : ∃ fs x, es = fs ++ [x] := ⟨_, _, e0.symm⟩
      have hx : x ∈ evs := he x (by simp)
      have := l.lv fs (fun y hy => he y (by simp [hy])) (by simp at hl; omega)
      have q := ex _ this.2 x hx
      rw [fine_app, runK_app, this.1]
      exact ⟨by simp [fine, q.1], q.2⟩
  · rcases List.mem_append.mp hk with q | q
    · obtain ⟨es, e1, e2, e3, e4⟩ := l.rc k q
      exact ⟨es, e1, e2, e3, by omega⟩
    · obtain ⟨es, e1, e2, e3, e4⟩ := rf k q
      exact ⟨es, e1, e2, e3, by omega⟩
/-- a search that ended -/
theorem BLv.closed {d : Nat} {ks : List κ} (l : BLv start succ bad evs d ks []) : ∀ es, (∀ e ∈ es, e ∈ evs) → fine succ bad start es = true ∧ runK succ start es ∈ ks := by
  have key : ∀ es k, k ∈ ks → (∀ e ∈ es, e ∈ evs) → fine succ bad k es = true ∧ runK succ k es ∈ ks := by
    intro es
    induction es with
    | nil => exact fun k hk _ => ⟨rfl, hk⟩
    | cons e es ih =>
      intro k hk he
      have q := l.ex k hk (by simp) e (he e (by simp))
      have := ih (succ k e) q.2 fun y hy => he y (by simp [hy])
      exact ⟨by simp [fine, q.1, this.1], this.2⟩
  exact fun es he => key es start ((l.lv [] (by simp) (by simp)).2) he
end
/-! ### data as keys -/
mutual
theorem peq_refl : ∀ p : PyData, p.hasDict = false → peq p p = true
  | .none, _ => rfl
  | .bool b, _ => by simp [peq]
  | .int i, _ => by simp [peq]
  | .str s, _ => by simp [peq]
  | .list xs, h => by simp only [peq]; exact peqs_refl xs (by simpa [PyData.hasDict] using h)
  | .tuple xs, h => by simp only [peq]; exact peqs_refl xs (by simpa [PyData.hasDict] using h)
  | .dict kvs, h => by simp [PyData.hasDict] at h
theorem peqs_refl : ∀ ps : List PyData, PyData.hasDictAll ps = false → peqs ps ps = true
  | [], _ => rfl
  | p :: ps, h => by
    simp only [PyData.hasDictAll, Bool.or_eq_false_iff] at h
    simp only [peqs, peq_refl p h.1, peqs_refl ps h.2, Bool.and_self]
end
theorem peq_dec {α : Type} [DecidableEq α] (e : α → PyData) (inj : ∀ a b, e a = e b → a = b) (hd : ∀ a, (e a).hasDict = false) (a b : α) : peq (e a) (e b) = decide (a = b) := by
  by_cases h : a = b
  · subst h; simp [peq_refl _ (hd a)]
  · cases q : peq (e a) (e b) with
    | false => simp [h]
    | true => exact absurd (inj a b (peq_ok q)) h
theorem tabGet_enc {α β δ : Type} [DecidableEq α] (e : α → PyData) (he : ∀ a b, peq (e a) (e b) = decide (a = b)) (f : β → δ) : ∀ (kvs : List (α × β)) (a : α), tabGet (kvs.map fun q => (e q.1, f q.2)) (e a) = (kvs.lookup a).map f
  | [], _ => rfl
  | (k, v) :: kvs, a => by
    simp only [List.map_cons, tabGet, he, List.lookup_cons]
    by_cases h : k = a
    · subst h; simp
    · have h2 : ¬ (a == k) = true := by simp; exact fun q => h q.symm
      simp [h, h2, tabGet_enc e he f kvs a]
theorem lookup_isSome {α β : Type} [DecidableEq α] : ∀ (kvs : List (α × β)) (a : α), (kvs.lookup a).isSome = decide (a ∈ kvs.map (·.1))
  | [], _ => by simp
  | (k, v) :: kvs, a => by
    simp only [List.lookup_cons, List.map_cons, List.mem_cons]
    by_cases h : a = k
    · subst h; simp
    · have h2 : (a == k) = false := by simp [h]
      simp [h, h2, lookup_isSome kvs a]
theorem tabPut_new {α β δ : Type} [DecidableEq α] (e : α → PyData) (he : ∀ a b, peq (e a) (e b) = decide (a = b)) (f : β → δ) (kvs : List (α × β)) (a : α) (b : β) (hn : a ∉ kvs.map (·.1)) : tabPut (kvs.map fun q => (e q.1, f q.2)) (e a) (f b) = (kvs ++ [(a, b)]).map fun q => (e q.1, f q.2) := by
  have : (tabGet (kvs.map fun q => (e q.1, f q.2)) (e a)).isSome = false := by
    rw [tabGet_enc e he, Option.isSome_map, lookup_isSome]; simpa using hn
  simp [tabPut, this]
end L2.LC

set_option maxHeartbeats 1000000
/-! LS: how many states there are; rows back. -/
namespace L2.LC
open PySem
def allWs : Nat → List Bt → List (List Bt)
  | 0, _ => [[]]
  | n + 1, bs => [] :: bs.flatMap fun b => (allWs n (bs.erase b)).map (b :: ·)
theorem mem_allWs : ∀ (n : Nat) (ws bs : List Bt), ws.Nodup → (∀ b ∈ ws, b ∈ bs) → ws.length ≤ n → ws ∈ allWs n bs
  | 0, ws, bs, _, _, hl => by
    have : ws = [] := List.length_eq_zero_iff.mp (by omega)
    simp [allWs, this]
  | n + 1, [], bs, _, _, _ => by simp [allWs]
  | n + 1, w :: ws, bs, hn, hs, hl => by
    simp only [allWs, List.mem_cons, List.mem_flatMap, List.mem_map]
    right
    refine ⟨w, hs w (by simp), ws, ?_, rfl⟩
    refine mem_allWs n ws (bs.erase w) (List.nodup_cons.mp hn).2 (fun b hb => ?_) (by simpa using hl)
    rw [List.mem_erase_of_ne]
    · exact hs b (by simp [hb])
    · rintro rfl
      exact (List.nodup_cons.mp hn).1 hb
def cntW : Nat → Nat → Nat
  | 0, _ => 1
  | n + 1, m => 1 + m * cntW n (m - 1)
theorem sum_const {α : Type} (f : α → Nat) (c : Nat) : ∀ (xs : List α), (∀ x ∈ xs, f x = c) → (xs.map f).sum = xs.length * c
  | [], _ => by simp
  | x :: xs, h => by
    simp only [List.map_cons, List.sum_cons, h x (by simp), sum_const f c xs fun y hy => h y (by simp [hy]), List.length_cons, Nat.add_mul, Nat.one_mul]
    omega
theorem flatMap_len {α β : Type} (f : α → List β) (c : Nat) (xs : List α) (h : ∀ x ∈ xs, (f x).length = c) : (xs.flatMap f).length = xs.length * c := by
  rw [List.length_flatMap, sum_const _ c xs h]
theorem allWs_length : ∀ (n : Nat) (bs : List Bt), (allWs n bs).length = cntW n bs.length
  | 0, bs => rfl
  | n + 1, bs => by
    simp only [allWs, List.length_cons, List.length_flatMap, List.length_map, cntW]
    rw [sum_const _ (cntW n (bs.length - 1)) bs fun b hb => by rw [allWs_length n, List.length_erase_of_mem hb]]
    omega
def allSta (bs : List Bt) : List Sta := [0, 1, 2, 3].flatMap fun f => [Wd.up, .down, .none].flatMap fun w => [0, 1, 2, 3].flatMap fun d => (allWs 4 bs).map fun ws => ⟨f, w, d, ws⟩
theorem allSta_length (bs : List Bt) (h : bs.length ≤ 4) : (allSta bs).length ≤ 3120 := by
  have e : (allSta bs).length = 4 * (3 * (4 * (allWs 4 bs).length)) := by
    unfold allSta
    rw [flatMap_len _ (3 * (4 * (allWs 4 bs).length)) _ fun f _ => ?_]
    · rfl
    · rw [flatMap_len _ (4 * (allWs 4 bs).length) _ fun w _ => ?_]
      · rfl
      · rw [flatMap_len _ (allWs 4 bs).length _ fun d _ => by rw [List.length_map]]
        rfl
  rw [e, allWs_length]
  have : bs.length = 0 ∨ bs.length = 1 ∨ bs.length = 2 ∨ bs.length = 3 ∨ bs.length = 4 := by omega
  rcases this with q | q | q | q | q <;> rw [q] <;> decide
structure Ru.Small (r : Ru) : Prop where
  f4 : r.fl ≤ 4
  b4 : r.bs.length ≤ 4
theorem mem_allSta {r : Ru} {s : Sta} (ro : r.Ok) (sm : r.Small) (ok : s.Ok r) : s ∈ allSta r.bs := by
  have h1 := ok.f0
  have h2 := ok.fl
  have h3 := sm.f4
  have h4 := ro.o3
  have h5 := ok.d0
  have h6 := ok.dl
  have h7 := mem_allWs 4 s.ws r.bs ok.nodup ok.ws (Nat.le_trans (nodup_len ok.nodup ok.ws) sm.b4)
  have h8 := ok.hd
  simp only [allSta, List.mem_flatMap, List.mem_map]
  refine ⟨s.fl, by simp; omega, s.hd, ?_, s.door, by simp; omega, s.ws, h7, rfl⟩
  generalize s.hd = w at *
  cases w <;> simp_all
def prodL {α β : Type} (xs : List α) (ys : List β) : List (α × β) := xs.flatMap fun x => ys.map fun y => (x, y)
theorem prodL_length {α β : Type} (xs : List α) (ys : List β) : (prodL xs ys).length = xs.length * ys.length := by
  simp only [prodL, List.length_flatMap, List.length_map]
  rw [sum_const _ ys.length xs fun _ _ => rfl]
theorem mem_prodL {α β : Type} {xs : List α} {ys : List β} {x : α} {y : β} (hx : x ∈ xs) (hy : y ∈ ys) : (x, y) ∈ prodL xs ys := by
  simp only [prodL, List.mem_flatMap, List.mem_map]
  exact ⟨x, hx, y, hy, rfl⟩
theorem Sta.e_inj {a b : Sta} (h : a.e = b.e) : a = b := by
  have : PyData.eqv a.e b.e = true := by rw [h]; simp
  simpa using this
theorem Evn.e_inj {a b : Evn} (h : a.e = b.e) : a = b := by
  have : PyData.eqv a.e b.e = true := by rw [h]; simp
  simpa using this
theorem Bt.nd (b : Bt) : b.e.hasDict = false := rfl
theorem Bts.nd (bs : List Bt) : PyData.hasDictAll (bs.map Bt.e) = false := dictAll fun x hx => by
  obtain ⟨b, _, rfl⟩ := List.mem_map.mp hx
  rfl
theorem Sta.nd (s : Sta) : s.e.hasDict = false := by simp [Sta.e, PyData.hasDict, PyData.hasDictAll, Bts.nd]
theorem Sta.peq (a b : Sta) : peq a.e b.e = decide (a = b) := peq_dec Sta.e (fun _ _ h => Sta.e_inj h) Sta.nd a b
theorem nksOk_bts (bs : List Bt) : nksOk (bs.map Bt.e) = true := by
  induction bs with
  | nil => rfl
  | cons b bs ih => simp [nksOk, ih, Bt.e, nkOk]
@[simp] theorem Sta.key (s : Sta) : keyOk s.e = true := by
  have := Sta.dep s
  simp only [Sta.e] at this
  simp only [Sta.e, keyOk, Bool.and_eq_true, decide_eq_true_eq]
  exact ⟨by simp [nksOk, nkOk, nksOk_bts], by omega⟩
/-- pairs of states -/
abbrev Pr := Sta × Sta
def prE (p : Pr) : PyData := .tuple [p.1.e, p.2.e]
theorem prE_inj {a b : Pr} (h : prE a = prE b) : a = b := by
  simp only [prE, PyData.tuple.injEq, List.cons.injEq, and_true] at h
  exact Prod.ext (Sta.e_inj h.1) (Sta.e_inj h.2)
theorem prE_peq (a b : Pr) : peq (prE a) (prE b) = decide (a = b) := peq_dec prE (fun _ _ h => prE_inj h) (fun a => by simp [prE, PyData.hasDict, PyData.hasDictAll, Sta.nd]) a b
theorem prE_dep (p : Pr) : (prE p).depth ≤ 4 := by
  have d1 := Sta.dep p.1
  have d2 := Sta.dep p.2
  simp only [prE, PyData.depth, PyData.depthAll]
  omega
@[simp] theorem prE_key (p : Pr) : keyOk (prE p) = true := by
  have h1 := Sta.key p.1
  have h2 := Sta.key p.2
  have d := prE_dep p
  simp only [Sta.e, keyOk, Bool.and_eq_true] at h1 h2
  simp only [prE] at d
  simp only [prE, keyOk, Bool.and_eq_true, decide_eq_true_eq]
  refine ⟨?_, by omega⟩
  simp only [nksOk, Bool.and_true, Bool.and_eq_true]
  exact ⟨by simpa [Sta.e, nkOk] using h1.1, by simpa [Sta.e, nkOk] using h2.1⟩
/-! ### rows back -/
section
variable {κ : Type} [DecidableEq κ]
inductive Rw (came : List (κ × Option (κ × Evn))) : κ → List Evn → Prop
  | nil {k : κ} : came.lookup k = some none → Rw came k []
  | snoc {k h : κ} {e : Evn} {es : List Evn} : came.lookup k = some (some (h, e)) → Rw came h es → Rw came k (es ++ [e])
theorem lookup_snoc {β : Type} : ∀ (xs : List (κ × β)) (k k' : κ) (v : β) (w : β), xs.lookup k = some w → (xs ++ [(k', v)]).lookup k = some w
  | [], _, _, _, _, h => by simp at h
  | (a, b) :: xs, k, k', v, w, h => by
    simp only [List.cons_append, List.lookup_cons] at h ⊢
    split
    · rename_i q; simp only [q] at h; exact h
    · rename_i q; simp only [q] at h; exact lookup_snoc xs k k' v w h
theorem lookup_new {β : Type} : ∀ (xs : List (κ × β)) (k : κ) (v : β), k ∉ xs.map (·.1) → (xs ++ [(k, v)]).lookup k = some v
  | [], _, _, _ => by simp
  | (a, b) :: xs, k, v, h => by
    simp only [List.map_cons, List.mem_cons, not_or] at h
    have : (k == a) = false := by simp [h.1]
    simp only [List.cons_append, List.lookup_cons, this]
    exact lookup_new xs k v h.2
theorem Rw.more {came : List (κ × Option (κ × Evn))} {k : κ} {es : List Evn} (r : Rw came k es) (q : κ × Option (κ × Evn)) : Rw (came ++ [q]) k es := by
  induction r with
  | nil h => exact .nil (lookup_snoc _ _ _ _ _ h)
  | snoc h _ ih => exact .snoc (lookup_snoc _ _ _ _ _ h) ih
/-- what stands behind a key -/
def vE (enc : κ → PyData) : Option (κ × Evn) → PyData
  | none => .none
  | some (h, e) => .tuple [enc h, e.e]
def cameO (enc : κ → PyData) (came : List (κ × Option (κ × Evn))) : Ob := .tab (came.map fun q => (enc q.1, .dat (vE enc q.2)))
theorem idx_came {enc : κ → PyData} (hp : ∀ a b, peq (enc a) (enc b) = decide (a = b)) (hk : ∀ a, keyOk (enc a) = true) {h : Hs} {n : Nat} {came : List (κ × Option (κ × Evn))} (e : h[n]? = some (cameO enc came)) {k : κ} {v : Option (κ × Evn)} (hv : came.lookup k = some v) : idxD h (.ref n) (.dat (enc k)) = some (.dat (vE enc v)) := by
  have := tabGet_enc enc hp (fun v => D.dat (vE enc v)) came k
  rw [hv] at this
  simp only [Option.map_some] at this
  simp only [idxD, idxT, e, cameO, hk, if_true, this]
theorem wp_row_to {own : List FD} {j : Nat} {enc : κ → PyData} (hp : ∀ a b, peq (enc a) (enc b) = decide (a = b)) (hk : ∀ a, keyOk (enc a) = true) {h : Hs} {n : Nat} {came : List (κ × Option (κ × Evn))} (e : h[n]? = some (cameO enc came)) {k : κ} {es : List Evn} (r : Rw came k es) (hl : es.length ≤ 10000000) {P : D → Hs → Prop}
    (q : ∀ x, P (.dat (.tuple (es.map Evn.e))) (h ++ [x])) : Wp (evF (PT own) (j + 1) 46 [.ref n, .dat (enc k)] h) P := by
  refine evF_wp (fd := fd_row_to) (by rfl) rfl rfl ?_
  have hn : n < h.length := (List.getElem?_eq_some_iff.mp e).1
  simp [fd_row_to]
  refine whlC_wp (fun m ρ st => ∃ k2 es2 fnd a3, Rw came k2 es2 ∧ m = es2.length ∧ es = es2 ++ fnd.reverse ∧ ρ = [some (.ref n), some (.dat (enc k2)), some (.ref h.length), a3] ∧ st = h ++ [.lst (fnd.map fun e : Evn => .dat e.e)]) ?_ turns es.length (by have : turns = 2 ^ 64 := rfl; omega) _ _ ⟨k, es, [], none, r, rfl, by simp, rfl, by simp⟩
  rintro m ρ st ⟨k2, es2, fnd, a3, r2, rfl, e2, rfl, rfl⟩
  have e' : (h ++ [.lst (fnd.map fun e : Evn => .dat e.e)])[n]? = some (cameO enc came) := by rw [List.getElem?_append_left hn]; exact e
  cases r2 with
  | nil hv =>
    have := idx_came hp hk e' hv
    simp [this, vE]
    have := q (.lst (fnd.map fun e : Evn => .dat e.e))
    rw [e2] at this
    simpa using this
  | snoc hv hr =>
    rename_i h2 e3 es3
    have hi := idx_came hp hk e' hv
    have hz : fnd.length < sizeLine := by
      have := congrArg List.length e2
      simp at this
      have : sizeLine = 16777216 := rfl
      omega
    simp [hi, vE, appAt, hz]
    exact ⟨es3.length, by omega, h2, es3, hr, rfl, fnd ++ [e3], by rw [e2]; simp, rfl, by simp⟩
end
end L2.LC

set_option maxHeartbeats 2000000
/-! LS: partings. -/
namespace L2.LC
open PySem
theorem evF_pureW {G : List FD} {k f : Nat} {fd : FD} {args : List D} {Q : PyData → Prop} (hf : G[f]? = some fd) (ha : (dats args).isSome = true) (hn : args.length = fd.np)
    (w : Wp (evSs (evF G k) fd.body (args.map some ++ List.replicate fd.nl none) []) fun fl _ => match fl with | .rt d => ∃ p, d = .dat p ∧ Q p | _ => False) : ∃ p, Q p ∧ ∀ h, evF G (k + 1) f args h = .ok (.dat p) h := by
  obtain ⟨fl, s, e, q⟩ := w.get
  cases fl with
  | rt d =>
    obtain ⟨p, rfl, hq⟩ := q
    refine ⟨p, hq, evF_pure hf ha hn ?_⟩
    rw [e]
    exact rfl
  | _ => exact q.elim
def evsOf (r : Ru) : List Evn := r.bs.map .press ++ [.step]
theorem evsOf_ok {r : Ru} : ∀ e ∈ evsOf r, e.Ok r := fun e he => by
  rcases List.mem_append.mp he with q | q
  · obtain ⟨b, hb, rfl⟩ := List.mem_map.mp q; exact hb
  · simp at q; subst q; trivial
theorem evsOf_iff {r : Ru} (e : Evn) : e ∈ evsOf r ↔ e.Ok r := by
  refine ⟨evsOf_ok e, fun h => ?_⟩
  cases e with
  | step => simp [evsOf]
  | press b => simp only [evsOf, List.mem_append, List.mem_map]; exact .inl ⟨b, h, rfl⟩
section
variable (own : List FD) (k : Nat) (h : Hs)
@[simp] theorem ev_events_in (r : Ru) (hl : r.bs.length ≤ 1000) : evF (PT own) (k + 1) 44 [.dat r.e] h = .ok (.dat (.list ((evsOf r).map Evn.e))) h := by
  refine evF_pure (fd := fd_events_in) (by rfl) rfl rfl ?_ h
  simp [fd_events_in]
  rw [compC_map (fun b : Bt => .dat b.e) (fun b => (Evn.press b).e) _ _ fun b _ => by simp [Evn.e]]
  have hz : r.bs.length + 1 ≤ sizeLine := le_line _ (by omega)
  simp [hz, evsOf, Evn.e]
@[simp] theorem ev_law_events (r : Ru) (hl : r.bs.length ≤ 1000) : evF (PT own) (k + 1) 116 [.dat r.e] h = .ok (.dat (.list ((evsOf r).map Evn.e))) h := by
  refine evF_pure (fd := fd_law_events) (by rfl) rfl rfl ?_ h
  simp [fd_law_events]
  rw [compC_map (fun b : Bt => .dat b.e) (fun b => (Evn.press b).e) _ _ fun b _ => by simp [Evn.e]]
  have hz : r.bs.length + 1 ≤ sizeLine := le_line _ (by omega)
  simp [hz, evsOf, Evn.e]
end
@[simp] theorem idxD_prE (h : Hs) (p : Pr) (i : Int) : idxD h (.dat (prE p)) (.dat (.int i)) = (L2.atI [p.1.e, p.2.e] i).map .dat := rfl
@[simp] theorem idxD_stE (h : Hs) (p : Sta × Tl) (i : Int) : idxD h (.dat (stE p)) (.dat (.int i)) = (L2.atI [p.1.e, p.2.e] i).map .dat := rfl
@[simp] theorem deep_prE (p : Pr) (q : PyData) : deep (prE p) q = true := deepL (by have := prE_dep p; omega) q
theorem in_came {κ β : Type} [DecidableEq κ] {enc : κ → PyData} (hp : ∀ a b, peq (enc a) (enc b) = decide (a = b)) (hk : ∀ a, keyOk (enc a) = true) {h : Hs} {n : Nat} {f : β → D} {came : List (κ × β)} (e : h[n]? = some (.tab (came.map fun q => (enc q.1, f q.2)))) (k : κ) : cmpD h .notin (.dat (enc k)) (.ref n) = some (!decide (k ∈ came.map (·.1))) := by
  have : inT h (.dat (enc k)) (.ref n) = some (decide (k ∈ came.map (·.1))) := by
    simp only [inT, e, hk, if_true, tabGet_enc enc hp, Option.isSome_map, lookup_isSome]
  simp only [cmpD, this]
theorem put_came {κ β : Type} [DecidableEq κ] {enc : κ → PyData} (hp : ∀ a b, peq (enc a) (enc b) = decide (a = b)) (hk : ∀ a, keyOk (enc a) = true) {h : Hs} {n : Nat} {f : β → D} {came : List (κ × β)} (e : h[n]? = some (.tab (came.map fun q => (enc q.1, f q.2)))) {k : κ} (v : β) (hn : k ∉ came.map (·.1)) (hl : came.length < sizeLine) : putD h (.ref n) (.dat (enc k)) (f v) = some (h.set n (.tab ((came ++ [(k, v)]).map fun q => (enc q.1, f q.2)))) := by
  have := tabPut_new enc hp f came k v hn
  have hl2 : (came.map fun q => (enc q.1, f q.2)).length < sizeLine := by simpa using hl
  simp only [putD, e]
  rw [if_pos ⟨hk k, hl2⟩, this]
/-! ### a search with rows back -/
section
variable {κ : Type} [DecidableEq κ] (start : κ) (succ : κ → Evn → κ) (bad : κ → Evn → Bool) (evs : List Evn)
def RowsAt (came : List (κ × Option (κ × Evn))) (d : Nat) (ks : List κ) : Prop := ∀ k ∈ ks, ∃ es, Rw came k es ∧ (∀ e ∈ es, e ∈ evs) ∧ runK succ start es = k ∧ fine succ bad start es = true ∧ es.length = d
structure SrI (d : Nat) (came : List (κ × Option (κ × Evn))) (front : List κ) : Prop where
  lv : BLv start succ bad evs d (came.map (·.1)) front
  rw : RowsAt start succ bad evs came d front
  dl : front ≠ [] → d + 1 ≤ came.length
structure SrM (d : Nat) (came0 : List (κ × Option (κ × Evn))) (front dn : List κ) (h : κ) (de : List Evn) (came : List (κ × Option (κ × Evn))) (later : List κ) : Prop where
  md : BMd succ bad evs (came0.map (·.1)) front dn h de later
  ks : came.map (·.1) = came0.map (·.1) ++ later
  rf : RowsAt start succ bad evs came d front
  rl : RowsAt start succ bad evs came (d + 1) later
variable {start succ bad evs}
theorem RowsAt.more {came : List (κ × Option (κ × Evn))} {d : Nat} {ks : List κ} (r : RowsAt start succ bad evs came d ks) (q : κ × Option (κ × Evn)) : RowsAt start succ bad evs (came ++ [q]) d ks := fun k hk => by
  obtain ⟨es, h1, h2⟩ := r k hk
  exact ⟨es, h1.more q, h2⟩
theorem SrI.begin : SrI start succ bad evs 0 [(start, none)] [start] := ⟨BLv.begin _ _ _ _, fun k hk => by
  simp at hk; subst hk
  exact ⟨[], .nil (by simp), by simp, rfl, rfl, rfl⟩, fun _ => by simp⟩
theorem SrM.begin {d : Nat} {came : List (κ × Option (κ × Evn))} {front : List κ} (h : κ) (s : SrI start succ bad evs d came front) : SrM start succ bad evs d came front [] h [] came [] :=
  ⟨BMd.begin s.lv, by simp, s.rw, fun k hk => by cases hk⟩
theorem SrM.old {d : Nat} {came0 came : List (κ × Option (κ × Evn))} {front dn later : List κ} {h : κ} {de : List Evn} {e : Evn} (m : SrM start succ bad evs d came0 front dn h de came later) (hh : h ∈ front) (he : e ∈ evs) (hb : bad h e = false) (hi : succ h e ∈ came.map (·.1)) : SrM start succ bad evs d came0 front dn h (de ++ [e]) came later := by
  have := m.md.next hh he hb
  rw [if_pos (by rw [← m.ks]; exact hi)] at this
  exact ⟨this, m.ks, m.rf, m.rl⟩
theorem SrM.new {d : Nat} {came0 came : List (κ × Option (κ × Evn))} {front dn later : List κ} {h : κ} {de : List Evn} {e : Evn} (m : SrM start succ bad evs d came0 front dn h de came later) (hh : h ∈ front) (he : e ∈ evs) (hb : bad h e = false) (hi : succ h e ∉ came.map (·.1)) : SrM start succ bad evs d came0 front dn h (de ++ [e]) (came ++ [(succ h e, some (h, e))]) (later ++ [succ h e]) := by
  have := m.md.next hh he hb
  rw [if_neg (by rw [← m.ks]; exact hi)] at this
  refine ⟨this, by simp [m.ks], m.rf.more _, fun k hk => ?_⟩
  rcases List.mem_append.mp hk with q | q
  · exact (m.rl.more _) k q
  · simp at q
    subst q
    obtain ⟨es, h1, h2, h3, h4, h5⟩ := m.rf h hh
    refine ⟨es ++ [e], .snoc (lookup_new _ _ _ hi) (h1.more _), fun x hx => ?_, by rw [runK_app, h3]; rfl, by rw [fine_app, h4, h3]; simp [fine, hb], by simp [h5]⟩
    rcases List.mem_append.mp hx with q | q
    · exact h2 x q
    · simp at q; subst q; exact he
theorem SrM.move {d : Nat} {came0 came : List (κ × Option (κ × Evn))} {front dn later : List κ} {h : κ} (h' : κ) (m : SrM start succ bad evs d came0 front dn h evs came later) : SrM start succ bad evs d came0 front (dn ++ [h]) h' [] came later :=
  ⟨m.md.move, m.ks, m.rf, m.rl⟩
theorem SrM.at {d : Nat} {came0 came : List (κ × Option (κ × Evn))} {front dn later : List κ} {h : κ} (h' : κ) (m : SrM start succ bad evs d came0 front dn h [] came later) : SrM start succ bad evs d came0 front dn h' [] came later :=
  ⟨⟨m.md.nd, m.md.dn, by simp, m.md.lt⟩, m.ks, m.rf, m.rl⟩
theorem SrM.done {d : Nat} {came0 came : List (κ × Option (κ × Evn))} {front later : List κ} {h : κ} (s : SrI start succ bad evs d came0 front) (m : SrM start succ bad evs d came0 front front h [] came later) (hf : front ≠ []) : SrI start succ bad evs (d + 1) came later := by
  have := m.md.done s.lv
  rw [← m.ks] at this
  refine ⟨this, m.rl, fun hl => ?_⟩
  have h1 := congrArg List.length m.ks
  simp at h1
  have h2 := s.dl hf
  have h3 := List.length_pos_iff.mpr hl
  omega
end
/-! ### pairs of states -/
def succP (a b : Ru) (p : Pr) (e : Evn) : Pr := ((doneS a p.1 e).1, (doneS b p.2 e).1)
def badP (a b : Ru) (p : Pr) (e : Evn) : Bool := !decide ((doneS a p.1 e).2 = (doneS b p.2 e).2)
theorem runK_pr (a b : Ru) : ∀ (es : List Evn) (p : Pr), runK (succP a b) p es = (lastS a p.1 es, lastS b p.2 es)
  | [], p => rfl
  | e :: es, p => by rw [runK, runK_pr a b es]; rfl
theorem fine_pr (a b : Ru) : ∀ (es : List Evn) (p : Pr), fine (succP a b) (badP a b) p es = decide (traceS a p.1 es = traceS b p.2 es)
  | [], p => by simp [fine, traceS, pathS]
  | e :: es, p => by
    have ih := fine_pr a b es (succP a b p e)
    have e1 : (traceS a p.1 (e :: es) = traceS b p.2 (e :: es)) ↔ ((doneS a p.1 e).2 = (doneS b p.2 e).2 ∧ traceS a (succP a b p e).1 es = traceS b (succP a b p e).2 es) := by simp [traceS, pathS, succP]
    rw [fine, ih, decide_eq_decide.mpr e1, Bool.decide_and]
    simp [badP]
/-- what parting_from answers -/
def PartP (a b : Ru) (p : Pr) (d : PyData) : Prop :=
  (d = .none ∧ ∀ es, (∀ e ∈ es, e ∈ evsOf a) → traceS a p.1 es = traceS b p.2 es) ∨
  ∃ es e, d = .tuple ((es ++ [e]).map Evn.e) ∧ (∀ x ∈ es ++ [e], x ∈ evsOf a) ∧ traceS a p.1 es = traceS b p.2 es ∧ traceS a p.1 (es ++ [e]) ≠ traceS b p.2 (es ++ [e]) ∧ (∀ fs, (∀ x ∈ fs, x ∈ evsOf a) → fs.length ≤ es.length → traceS a p.1 fs = traceS b p.2 fs) ∧ es.length ≤ 9734400
structure Two (a b : Ru) (p : Pr) : Prop where
  ao : a.Ok
  bo : b.Ok
  as : a.Small
  bs : b.Small
  lk : b.bs = a.bs
  so : p.1.Ok a
  to : p.2.Ok b
theorem Two.ev {a b : Ru} {p : Pr} (w : Two a b p) {e : Evn} (he : e ∈ evsOf a) : e.Ok a ∧ e.Ok b := by
  have := evsOf_ok e he
  refine ⟨this, ?_⟩
  cases e with
  | step => trivial
  | press x => show x ∈ b.bs; rw [w.lk]; exact this
theorem Two.run {a b : Ru} {p : Pr} (w : Two a b p) {es : List Evn} (he : ∀ e ∈ es, e ∈ evsOf a) : Two a b (runK (succP a b) p es) := by
  rw [runK_pr]
  exact ⟨w.ao, w.bo, w.as, w.bs, w.lk, lastS_ok w.ao w.so fun e h => (w.ev (he e h)).1, lastS_ok w.bo w.to fun e h => (w.ev (he e h)).2⟩
/-- the bound on keys -/
theorem keys_le {a b : Ru} {p : Pr} (w : Two a b p) {d : Nat} {ks front : List Pr} (l : BLv p (succP a b) (badP a b) (evsOf a) d ks front) : ks.length ≤ 9734400 := by
  have h1 := allSta_length a.bs w.as.b4
  have h2 := allSta_length b.bs w.bs.b4
  have : ks.length ≤ (prodL (allSta a.bs) (allSta b.bs)).length := nodup_len l.nd fun k hk => by
    obtain ⟨es, e1, e2, _, _⟩ := l.rc k hk
    have t := w.run e1
    rw [e2] at t
    exact mem_prodL (mem_allSta w.ao w.as t.so) (mem_allSta w.bo w.bs t.to)
  rw [prodL_length] at this
  exact Nat.le_trans this (Nat.le_trans (Nat.mul_le_mul h1 h2) (by decide))
/-- where the search stands, in the store -/
def PInv (a b : Ru) (s t : Sta) (n : Nat) (ρ : En) (st : Hs) : Prop := ∃ d came front ext fd a6 a7 a8 a9 a10 a11, SrI (s, t) (succP a b) (badP a b) (evsOf a) d came front ∧
      st = cameO prE came :: ext ∧ rd st fd = some (.list (front.map prE)) ∧ n = (if front = [] then 0 else 9734401 - came.length) ∧
      ρ = [some (.dat a.e), some (.dat s.e), some (.dat b.e), some (.dat t.e), some (.ref 0), some fd, a6, a7, a8, a9, a10, a11]
def PFor (a b : Ru) (s t : Sta) (d : Nat) (came0 : List (Pr × Option (Pr × Evn))) (front : List Pr) (ext : Hs) (fd : D) (rest : List Pr) (ρ : En) (st : Hs) : Prop := ∃ dn h came later a7 a8 a9 a10 a11, dn ++ rest = front ∧ SrM (s, t) (succP a b) (badP a b) (evsOf a) d came0 front dn h [] came later ∧
      st = cameO prE came :: (ext ++ [.lst (later.map fun p => .dat (prE p))]) ∧
      ρ = [some (.dat a.e), some (.dat s.e), some (.dat b.e), some (.dat t.e), some (.ref 0), some fd, some (.ref (ext.length + 1)), a7, a8, a9, a10, a11]
def PEv (a b : Ru) (s t : Sta) (d : Nat) (came0 : List (Pr × Option (Pr × Evn))) (front : List Pr) (ext : Hs) (fd : D) (dn : List Pr) (h : Pr) (rest : List Evn) (ρ : En) (st : Hs) : Prop := ∃ de came later a8 a9 a10 a11, de ++ rest = evsOf a ∧ SrM (s, t) (succP a b) (badP a b) (evsOf a) d came0 front dn h de came later ∧
      st = cameO prE came :: (ext ++ [.lst (later.map fun p => .dat (prE p))]) ∧
      ρ = [some (.dat a.e), some (.dat s.e), some (.dat b.e), some (.dat t.e), some (.ref 0), some fd, some (.ref (ext.length + 1)), some (.dat (prE h)), a8, a9, a10, a11]
theorem wp_parting_from (own : List FD) (k : Nat) {a b : Ru} {s t : Sta} (w : Two a b (s, t)) : ∃ p, PartP a b (s, t) p ∧ ∀ h, evF (PT own) (k + 7) 49 [.dat a.e, .dat s.e, .dat b.e, .dat t.e] h = .ok (.dat p) h := by
  refine evF_pureW (fd := fd_parting_from) (by rfl) rfl rfl ?_
  have e0 : PyData.tuple [s.e, t.e] = prE (s, t) := rfl
  have hb6 : a.bs.length ≤ 1000 := by have := w.as.b4; omega
  have line : sizeLine = 16777216 := rfl
  simp [fd_parting_from, e0]
  refine whlC_wp (PInv a b s t) ?_ turns 9734400 (by have : turns = 2 ^ 64 := rfl; omega) _ _
    ⟨0, [((s, t), none)], [(s, t)], [], .dat (.list [prE (s, t)]), none, none, none, none, none, none, SrI.begin, rfl, rfl, by simp, rfl⟩
  rintro n ρ st ⟨d, came0, front, ext, fd, a6, a7, a8, a9, a10, a11, si, rfl, hfd, rfl, rfl⟩
  have kl := keys_le w si.lv
  simp only [List.length_map] at kl
  have hcmp : cmpD (cameO prE came0 :: ext) .ne fd (.dat (.list [])) = some (!decide (front = [])) := by
    have : cmpD (cameO prE came0 :: ext) .ne fd (.dat (.list [])) = cmpR (cameO prE came0 :: ext) .ne fd (.dat (.list [])) := rfl
    rw [this]
    simp only [cmpR, hfd, rd_datS, cmpP, deep_l0', if_true, eqv_l, eqvAll_xn]
    cases front <;> simp
  by_cases hf : front = []
  · subst hf
    simp [hcmp]
    exact .inl ⟨rfl, fun es he => by
      have := (si.lv.closed es he).1
      rw [fine_pr] at this
      simpa using this⟩
  · have hbl : bfD (cameO prE came0 :: (ext ++ [.lst []])) .list [fd] = some (.dat (.list (front.map prE))) := by
      have : rd (cameO prE came0 :: (ext ++ [.lst []])) fd = some (.list (front.map prE)) := by
        cases fd with
        | ref m =>
          simp only [rd] at hfd ⊢
          cases q : (cameO prE came0 :: ext)[m]? with
          | none => rw [q] at hfd; cases hfd
          | some o =>
            rw [q] at hfd
            have hm := (List.getElem?_eq_some_iff.mp q).1
            rw [← List.cons_append, List.getElem?_append_left hm, q]
            exact hfd
        | _ => exact hfd
      simp only [bfD, rds, this]; rfl
    simp [hcmp, hf, hbl]
    refine ⟨by omega, ?_⟩
    refine forC_wp (fun p : Pr => .dat (prE p)) (PFor a b s t d came0 front ext fd) ?_ ?_ front _ _ ⟨[], (s, t), came0, [], a7, a8, a9, a10, a11, by simp, SrM.begin _ si, rfl, rfl⟩
    · rintro x rest ρ st ⟨dn, h0, came, later, a7, a8, a9, a10, a11, hdn, sm, rfl, rfl⟩
      have hx : x ∈ front := by rw [← hdn]; simp
      simp [hb6]
      refine forC_wp (fun e : Evn => .dat e.e) (PEv a b s t d came0 front ext fd dn x) ?_ ?_ (evsOf a) _ _ ⟨[], came, later, a8, a9, a10, a11, by simp, sm.at x, rfl, rfl⟩
      · rintro e rs ρ st ⟨de, came, later, a8, a9, a10, a11, hde, sm, rfl, rfl⟩
        have he : e ∈ evsOf a := by rw [← hde]; simp
        obtain ⟨es, rw1, rv, rr, rfn, rl⟩ := sm.rf x hx
        have tw : Two a b x := by have := w.run rv; rw [rr] at this; exact this
        have l1 : x.1.ws.length ≤ 1000 := by have := tw.so.len w.ao; omega
        have l2 : x.2.ws.length ≤ 1000 := by have := tw.to.len w.bo; omega
        have ekey : PyData.tuple [(doneS a x.1 e).1.e, (doneS b x.2 e).1.e] = prE (succP a b x e) := rfl
        have hdd := si.dl hf
        have hlen := congrArg List.length sm.ks
        simp at hlen
        have k2 : (came.map (·.1)).length ≤ 9734400 := by
          have nd := sm.md.nd
          rw [← sm.ks] at nd
          have h1 := allSta_length a.bs w.as.b4
          have h2 := allSta_length b.bs w.bs.b4
          have : (came.map (·.1)).length ≤ (prodL (allSta a.bs) (allSta b.bs)).length := nodup_len nd fun q hq => by
            rw [sm.ks] at hq
            have tq : Two a b q := by
              rcases List.mem_append.mp hq with z | z
              · obtain ⟨fs, f1, f2, _, _⟩ := si.lv.rc q z
                have := w.run f1; rw [f2] at this; exact this
              · obtain ⟨fs, _, f1, f2, _, _⟩ := sm.rl q z
                have := w.run f1; rw [f2] at this; exact this
            exact mem_prodL (mem_allSta w.ao w.as tq.so) (mem_allSta w.bo w.bs tq.to)
          rw [prodL_length] at this
          exact Nat.le_trans this (Nat.le_trans (Nat.mul_le_mul h1 h2) (by decide))
        simp only [List.length_map] at k2
        by_cases hb : (doneS a x.1 e).2 = (doneS b x.2 e).2
        · have hb2 : badP a b x e = false := by simp [badP, hb]
          have hin := fun (h : Hs) => in_came (enc := prE) prE_peq prE_key (f := fun v => D.dat (vE prE v)) (came := came) (h := cameO prE came :: h) (n := 0) rfl (succP a b x e)
          by_cases hi : succP a b x e ∈ came.map (·.1)
          · simp only [hi, decide_true, Bool.not_true] at hin
            simp [l1, l2, hb, ekey, hin]
            exact ⟨de ++ [e], came, later, _, _, _, _, by simpa using hde, sm.old hx he hb2 hi, rfl, rfl⟩
          · simp only [hi, decide_false, Bool.not_false] at hin
            have hput := fun (h : Hs) => put_came (enc := prE) prE_peq prE_key (f := fun v => D.dat (vE prE v)) (came := came) (h := cameO prE came :: h) (n := 0) rfl (k := succP a b x e) (some (x, e)) hi (by omega)
            simp only [vE] at hput
            have hz : later.length < sizeLine := by omega
            simp [l1, l2, hb, ekey, hin, hput, appAt, hz]
            refine ⟨de ++ [e], came ++ [(succP a b x e, some (x, e))], later ++ [succP a b x e], _, _, _, _, by simpa using hde, sm.new hx he hb2 hi, ?_, rfl⟩
            simp only [cameO, List.map_append, List.map_cons, List.map_nil]
            rfl
        · simp [l1, l2, hb, ekey]
          refine wp_row_to prE_peq prE_key (came := came) rfl rw1 (by omega) fun y => ?_
          have hz : es.length + 1 ≤ sizeLine := by omega
          simp [hz]
          refine .inr ⟨es, e, by simp, fun z hz => ?_, ?_, ?_, fun fs h1 h2 => ?_, by omega⟩
          · rcases List.mem_append.mp hz with q | q
            · exact rv z q
            · simp at q; subst q; exact he
          · rw [fine_pr] at rfn
            simpa using rfn
          · have : fine (succP a b) (badP a b) (s, t) (es ++ [e]) = false := by
              rw [fine_app, rr]
              simp [fine, badP, hb]
            rw [fine_pr] at this
            simpa using this
          · have := (si.lv.lv fs h1 (by omega)).1
            rw [fine_pr] at this
            simpa using this
      · rintro ρ st ⟨de, came, later, a8, a9, a10, a11, hde, sm, rfl, rfl⟩
        simp at hde
        subst hde
        exact ⟨dn ++ [x], x, came, later, some (.dat (prE x)), a8, a9, a10, a11, by simpa using hdn, sm.move x, rfl, rfl⟩
    · rintro ρ st ⟨dn, h0, came, later, a7, a8, a9, a10, a11, hdn, sm, rfl, rfl⟩
      simp at hdn
      subst hdn
      simp
      have s2 := sm.done si hf
      have k2 := keys_le w s2.lv
      simp only [List.length_map] at k2
      have hlen := congrArg List.length sm.ks
      simp at hlen
      refine ⟨if later = [] then 0 else 9734401 - came.length, ?_, d + 1, came, later, _, .ref (ext.length + 1), _, _, _, _, _, _, s2, rfl, by simp, rfl, rfl⟩
      split
      · omega
      · rename_i hl
        have := List.length_pos_iff.mpr hl
        omega
end L2.LC

set_option maxHeartbeats 2000000
/-! LS: partings, on; drawn states. -/
namespace L2.LC
open PySem
section
variable (own : List FD) (k : Nat) (h : Hs)
@[simp] theorem ev_is_small_in (r : Ru) : evF (PT own) (k + 1) 8 [.dat r.e] h = .ok (.dat (.bool (decide (r.fl ≤ 4) && decide ((r.bs.length : Int) ≤ 4)))) h := by
  refine evF_pure (fd := fd_is_small_in) (by rfl) rfl rfl ?_ h
  simp [fd_is_small_in]
@[simp] theorem ev_need_small (r : Ru) (sm : r.Small) : evF (PT own) (k + 2) 10 [.dat r.e] h = .ok dN h := by
  refine evF_pure (fd := fd_need_small) (by rfl) rfl rfl ?_ h
  have h1 := sm.f4
  have h2 : (r.bs.length : Int) ≤ 4 := by have := sm.b4; omega
  simp [fd_need_small, h1, h2]
theorem ev_states_parting {r : Ru} {s t : Sta} (w : Two r r (s, t)) : ∃ p, PartP r r (s, t) p ∧ ∀ h, evF (PT own) (k + 8) 53 [.dat r.e, .dat s.e, .dat t.e] h = .ok (.dat p) h := by
  obtain ⟨p, hp, he⟩ := wp_parting_from own k w
  refine ⟨p, hp, evF_pure (fd := fd_states_parting) (by rfl) rfl rfl ?_⟩
  have so : s.Ok r := w.so
  have to : t.Ok r := w.to
  simp [fd_states_parting, w.ao, w.as, so, to, he]
theorem ev_states_alike {r : Ru} {s t : Sta} (w : Two r r (s, t)) : ∃ b : Bool, (b = true ↔ ∀ es, (∀ e ∈ es, e ∈ evsOf r) → traceS r s es = traceS r t es) ∧ ∀ h, evF (PT own) (k + 9) 54 [.dat r.e, .dat s.e, .dat t.e] h = .ok (.dat (.bool b)) h := by
  obtain ⟨p, hp, he⟩ := ev_states_parting own k w
  rcases hp with ⟨rfl, q⟩ | ⟨es, e, rfl, q1, q2, q3, q4, q5⟩
  · exact ⟨true, by simpa using q, evF_pure (fd := fd_states_alike) (by rfl) rfl rfl (by simp [fd_states_alike, he])⟩
  · refine ⟨false, ?_, evF_pure (fd := fd_states_alike) (by rfl) rfl rfl (by simp [fd_states_alike, he])⟩
    simp only [Bool.false_eq_true, false_iff]
    exact fun q => q3 (q _ q1)
end
theorem Two.swap {r : Ru} {s t : Sta} (w : Two r r (s, t)) : Two r r (t, s) := ⟨w.ao, w.bo, w.as, w.bs, w.lk, w.to, w.so⟩
theorem Two.same {r : Ru} {s t : Sta} (w : Two r r (s, t)) : Two r r (s, s) := ⟨w.ao, w.bo, w.as, w.bs, w.lk, w.so, w.so⟩
section
variable {own : List FD} {k : Nat} {hs : Hs} {o : Ob}
theorem wp_state {F : Nat} {r : Ru} {P : D → Hs → Prop} (m : MSt (F + 20) o) (ro : r.Ok)
    (q : ∀ (s : Sta) o' ext, s.Ok r → MSt F o' → P (.dat s.e) (o' :: (hs ++ ext))) : Wp (evF (PT own) (k + 3) 111 [.ref 0, .dat r.e] (o :: hs)) P := by
  refine evF_wp (fd := fd_law_state) (by rfl) rfl rfl ?_
  have hb6 := ro.b6
  have nd := rising_nodup ro.br
  simp [fd_law_state]
  refine wp_draw (F := F + 19) m ?_ ?_ fun g o1 g0 gl m1 => ?_
  · omega
  · omega
  obtain ⟨c, rfl⟩ := Int.eq_ofNat_of_zero_le g0
  have r4 : rngOk c = true := by simp [rngOk]; omega
  simp [r4, rngL]
  refine forC_wp (fun k : Nat => dI k) (fun rest ρ st => ∃ o2 a lft fnd, ρ = [some (.ref 0), some (.dat r.e), some (.ref (hs.length + 1)), some (.ref (hs.length + 2)), a] ∧ st = o2 :: (hs ++ [.lst (lft.map fun b : Bt => .dat b.e), .lst (fnd.map fun b : Bt => .dat b.e)]) ∧ (fnd ++ lft).Perm r.bs ∧ fnd.length + rest.length = c ∧ MSt (F + 19 - fnd.length) o2) ?_ ?_ (List.range c) _ _ ⟨o1, none, r.bs, [], rfl, by simp, by simp, by simp, m1⟩
  · rintro x rest ρ st ⟨o2, a, lft, fnd, rfl, rfl, hp, hl, m2⟩
    simp only [List.length_cons] at hl
    have hl2 := hp.length_eq
    simp only [List.length_append] at hl2
    simp
    refine wp_draw (F := F + 18 - fnd.length) (m2.less (by omega)) ?_ ?_ fun g o3 g0 gl m3 => ?_
    · omega
    · omega
    obtain ⟨j, rfl⟩ := Int.eq_ofNat_of_zero_le g0
    have hj : j < lft.length := by omega
    simp
    rw [popAt_nat (xs := lft.map fun b : Bt => .dat b.e) (y := .dat (lft[j]).e) (by simp) (by simp [hj]) (by simp; omega)]
    have hz : fnd.length < sizeLine := lt_line _ (by omega)
    simp [appAt, hz]
    refine ⟨o3, lft.eraseIdx j, fnd ++ [lft[j]], ?_, ?_, by simp; omega, by simpa using m3.less (by omega)⟩
    · simp [eraseIdx_mapF]
    · refine List.Perm.trans ?_ hp
      simp only [List.append_assoc]
      refine List.Perm.append_left fnd ?_
      exact perm_erase lft j hj
  · rintro ρ st ⟨o2, a, lft, fnd, rfl, rfl, hp, hl, m2⟩
    simp at hl
    have hn : (fnd ++ lft).Nodup := hp.nodup_iff.mpr nd
    have hnf : fnd.Nodup := (List.nodup_append.mp hn).1
    have hin : ∀ b ∈ fnd, b ∈ r.bs := fun b hb => hp.mem_iff.mp (by simp [hb])
    obtain ⟨ws, hws, hwi, hwn⟩ : ∃ ws : List Bt, ws = (if r.pk = .eldest then fnd else sortB fnd) ∧ (∀ b ∈ ws, b ∈ r.bs) ∧ (if r.pk = .eldest then ws.Nodup else rising ws = true) := by
      refine ⟨_, rfl, ?_, ?_⟩
      · split
        · exact hin
        · intro b hb; exact hin b ((sortB_mem _ _).mp hb)
      · split
        · exact hnf
        · exact rising_of (sortB_lt hnf)
    have f2 := ro.f2
    have f6 := ro.f6
    have o1' := ro.o1
    have o3' := ro.o3
    have key : ∀ (st2 : Hs), Wp (evSs (evF (PT own) (k + 2)) (.cons (.ret (.tup (.cons (.call 106 (.cons (.var 0) (.cons (.idx (.var 1) (.cst (.int 0))) .nil))) (.cons (.call 107 (.cons (.var 0) (.cons (.lst (.cons (.cst (.str s_up)) (.cons (.cst (.str s_down)) (.cons (.cst (.str s_none)) .nil)))) .nil))) (.cons (.call 106 (.cons (.var 0) (.cons (.bin .add (.idx (.var 1) (.cst (.int 7))) (.cst (.int 1))) .nil))) (.cons (.var 3) .nil)))))) .nil) [some (.ref 0), some (.dat r.e), some (.ref (hs.length + 1)), some (.dat (.tuple (ws.map Bt.e))), a] (o2 :: (hs ++ st2))) fun fl s => match fl with | .nx _ => P dN s | .rt d => P d s | _ => False := by
      intro st2
      simp
      refine wp_draw (F := F + 10) (m2.less (by omega)) ?_ ?_ fun g1 o3 g10 g1l m3 => ?_
      · omega
      · omega
      simp
      refine wp_of (F := F + 9) m3 (by simp) (by simp) fun p o4 hp4 m4 => ?_
      obtain ⟨wd, rfl, hwd⟩ : ∃ wd : Wd, p = .str wd.s ∧ wd ≠ .inn := by
        simp at hp4
        rcases hp4 with rfl | rfl | rfl
        · exact ⟨.up, rfl, by simp⟩
        · exact ⟨.down, rfl, by simp⟩
        · exact ⟨.none, rfl, by simp⟩
      simp
      refine wp_draw (F := F + 8) m4 ?_ ?_ fun g2 o5 g20 g2l m5 => ?_
      · omega
      · omega
      simp
      exact q ⟨g1, wd, g2, ws⟩ o5 _ ⟨g10, by simp only; omega, hwd, g20, by simp only; omega, hwi, hwn⟩ (m5.less (by omega))
    by_cases he : r.pk = .eldest
    · rw [if_pos he] at hws
      have := key [.lst (lft.map fun b : Bt => .dat b.e), .lst (fnd.map fun b : Bt => .dat b.e)]
      rw [hws] at this
      simp at this
      simp [he]
      exact this
    · rw [if_neg he] at hws
      have := key [.lst (lft.map fun b : Bt => .dat b.e), .lst (fnd.map fun b : Bt => .dat b.e)]
      rw [hws] at this
      simp at this
      simp [he]
      exact this
end
end L2.LC

set_option maxHeartbeats 2000000
/-! LS: states that are reached. -/
namespace L2.LC
open PySem
section
variable {κ : Type} [DecidableEq κ] (start : κ) (succ : κ → Evn → κ) (evs : List Evn)
def laterE (ks0 : List κ) (h : κ) (es : List Evn) (later : List κ) : List κ := es.foldl (fun later e => if succ h e ∈ ks0 ++ later then later else later ++ [succ h e]) later
def laterF (ks0 front later : List κ) : List κ := front.foldl (fun later h => laterE succ ks0 h evs later) later
/-- all keys, and the front, after so many levels -/
def lvl : Nat → List κ × List κ
  | 0 => ([start], [start])
  | n + 1 => ((lvl n).1 ++ laterF succ evs (lvl n).1 (lvl n).2 [], laterF succ evs (lvl n).1 (lvl n).2 [])
variable {start succ evs}
theorem laterE_snoc (ks0 : List κ) (h : κ) (es : List Evn) (e : Evn) (later : List κ) : laterE succ ks0 h (es ++ [e]) later = (if succ h e ∈ ks0 ++ laterE succ ks0 h es later then laterE succ ks0 h es later else laterE succ ks0 h es later ++ [succ h e]) := by
  simp only [laterE, List.foldl_append, List.foldl_cons, List.foldl_nil]
  rfl
theorem laterF_snoc (ks0 dn : List κ) (h : κ) (later : List κ) : laterF succ evs ks0 (dn ++ [h]) later = laterE succ ks0 h evs (laterF succ evs ks0 dn later) := by
  simp only [laterF, List.foldl_append, List.foldl_cons, List.foldl_nil]
theorem lvl_stays {n : Nat} (h : (lvl start succ evs n).2 = []) : ∀ m, lvl start succ evs (n + m) = lvl start succ evs n
  | 0 => rfl
  | m + 1 => by
    have ih := lvl_stays h m
    rw [show n + (m + 1) = (n + m) + 1 from rfl, lvl, ih, h]
    simp only [laterF, List.foldl_nil, List.append_nil]
    exact Prod.ext rfl h.symm
theorem lvl_end {n m : Nat} (hn : (lvl start succ evs n).2 = []) (hm : (lvl start succ evs m).2 = []) : lvl start succ evs n = lvl start succ evs m := by
  rcases Nat.le_total n m with h | h
  · obtain ⟨d, rfl⟩ := Nat.exists_eq_add_of_le h
    exact (lvl_stays hn d).symm
  · obtain ⟨d, rfl⟩ := Nat.exists_eq_add_of_le h
    exact lvl_stays hm d
end
theorem evF_pureDW {G : List FD} {k f : Nat} {fd : FD} {args : List D} {Q : List (PyData × PyData) → Prop} (hf : G[f]? = some fd) (ha : (dats args).isSome = true) (hn : args.length = fd.np)
    (w : Wp (evSs (evF G k) fd.body (args.map some ++ List.replicate fd.nl none) []) fun fl _ => match fl with | .rt d => ∃ p, d = .dct p ∧ Q p | _ => False) : ∃ p, Q p ∧ ∀ h, evF G (k + 1) f args h = .ok (.dct p) h := by
  obtain ⟨fl, s, e, q⟩ := w.get
  cases fl with
  | rt d =>
    obtain ⟨p, rfl, hq⟩ := q
    refine ⟨p, hq, evF_pureD hf ha hn ?_⟩
    rw [e]
    exact rfl
  | _ => exact q.elim
/-! ### states -/
def succS (r : Ru) (s : Sta) (e : Evn) : Sta := (doneS r s e).1
def noBad : Sta → Evn → Bool := fun _ _ => false
theorem runK_st (r : Ru) : ∀ (es : List Evn) (s : Sta), runK (succS r) s es = lastS r s es
  | [], s => rfl
  | e :: es, s => by rw [runK, runK_st r es]; rfl
/-- the keys that are reached -/
def CameR (r : Ru) (came : List (Sta × Option (Sta × Evn))) : Prop := ∃ d, SrI startS (succS r) noBad (evsOf r) d came [] ∧ lvl startS (succS r) (evsOf r) d = (came.map (·.1), [])
theorem keysS_le {r : Ru} (ro : r.Ok) (sm : r.Small) {ks : List Sta} (nd : ks.Nodup) (hk : ∀ k ∈ ks, k.Ok r) : ks.length ≤ 3120 :=
  Nat.le_trans (nodup_len nd fun k h => mem_allSta ro sm (hk k h)) (allSta_length r.bs sm.b4)
theorem sr_ok {r : Ru} (ro : r.Ok) {es : List Evn} (he : ∀ e ∈ es, e ∈ evsOf r) {k : Sta} (hr : runK (succS r) startS es = k) : k.Ok r := by
  rw [← hr, runK_st]
  exact lastS_ok ro (start_ok ro) fun e h => evsOf_ok e (he e h)
def RInv (r : Ru) (n : Nat) (ρ : En) (st : Hs) : Prop := ∃ d came front ext fd a3 a4 a5 a6, SrI startS (succS r) noBad (evsOf r) d came front ∧ lvl startS (succS r) (evsOf r) d = (came.map (·.1), front) ∧
      st = cameO Sta.e came :: ext ∧ rd st fd = some (.list (front.map Sta.e)) ∧ n = (if front = [] then 0 else 3121 - came.length) ∧
      ρ = [some (.dat r.e), some (.ref 0), some fd, a3, a4, a5, a6]
def RFor (r : Ru) (d : Nat) (came0 : List (Sta × Option (Sta × Evn))) (front : List Sta) (ext : Hs) (fd : D) (rest : List Sta) (ρ : En) (st : Hs) : Prop := ∃ dn h came later a4 a5 a6, dn ++ rest = front ∧ SrM startS (succS r) noBad (evsOf r) d came0 front dn h [] came later ∧ later = laterF (succS r) (evsOf r) (came0.map (·.1)) dn [] ∧
      st = cameO Sta.e came :: (ext ++ [.lst (later.map fun p => .dat p.e)]) ∧
      ρ = [some (.dat r.e), some (.ref 0), some fd, some (.ref (ext.length + 1)), a4, a5, a6]
def REv (r : Ru) (d : Nat) (came0 : List (Sta × Option (Sta × Evn))) (front : List Sta) (ext : Hs) (fd : D) (dn : List Sta) (h : Sta) (rest : List Evn) (ρ : En) (st : Hs) : Prop := ∃ de came later a5 a6, de ++ rest = evsOf r ∧ SrM startS (succS r) noBad (evsOf r) d came0 front dn h de came later ∧ later = laterE (succS r) (came0.map (·.1)) h de (laterF (succS r) (evsOf r) (came0.map (·.1)) dn []) ∧
      st = cameO Sta.e came :: (ext ++ [.lst (later.map fun p => .dat p.e)]) ∧
      ρ = [some (.dat r.e), some (.ref 0), some fd, some (.ref (ext.length + 1)), some (.dat h.e), a5, a6]
theorem valsD_came (came : List (Sta × Option (Sta × Evn))) : valsD (came.map fun q => (q.1.e, D.dat (vE Sta.e q.2))) = some (came.map fun q => (q.1.e, vE Sta.e q.2)) := by
  induction came with
  | nil => rfl
  | cons q qs ih => simp [valsD, ih]
theorem frz_came (came : List (Sta × Option (Sta × Evn))) (ext : Hs) : frzD (.ref 0) (cameO Sta.e came :: ext) = .ok (.dct (came.map fun q => (q.1.e, vE Sta.e q.2))) (.gone :: ext) := by
  have h1 : rd (cameO Sta.e came :: ext) (.ref 0) = none := rfl
  have h2 : tabD (cameO Sta.e came :: ext) 0 = some (came.map fun q => (q.1.e, vE Sta.e q.2)) := valsD_came came
  simp only [frzD, h1, h2]
  rfl
theorem wp_reached_in (own : List FD) (k : Nat) {r : Ru} (ro : r.Ok) (sm : r.Small) : ∃ came, CameR r came ∧ ∀ h, evF (PT own) (k + 7) 47 [.dat r.e] h = .ok (.dct (came.map fun q => (q.1.e, vE Sta.e q.2))) h := by
  suffices hs : ∃ p, (∃ came, CameR r came ∧ p = came.map fun q => (q.1.e, vE Sta.e q.2)) ∧ ∀ h, evF (PT own) (k + 7) 47 [.dat r.e] h = .ok (.dct p) h by
    obtain ⟨p, ⟨came, hc, rfl⟩, he⟩ := hs
    exact ⟨came, hc, he⟩
  refine evF_pureDW (fd := fd_reached_in) (by rfl) rfl rfl ?_
  have hb6 : r.bs.length ≤ 1000 := by have := sm.b4; omega
  have line : sizeLine = 16777216 := rfl
  simp [fd_reached_in, startE]
  refine whlC_wp (RInv r) ?_ turns 3120 (by have : turns = 2 ^ 64 := rfl; omega) _ _
    ⟨0, [(startS, none)], [startS], [], .dat (.list [startS.e]), none, none, none, none, SrI.begin, rfl, rfl, rfl, by simp, rfl⟩
  rintro n ρ st ⟨d, came0, front, ext, fd, a3, a4, a5, a6, si, hlv, rfl, hfd, rfl, rfl⟩
  have kl : came0.length ≤ 3120 := by
    have := keysS_le ro sm si.lv.nd fun k hk => by
      obtain ⟨es, e1, e2, _, _⟩ := si.lv.rc k hk
      exact sr_ok ro e1 e2
    simpa using this
  have hcmp : cmpD (cameO Sta.e came0 :: ext) .ne fd (.dat (.list [])) = some (!decide (front = [])) := by
    have : cmpD (cameO Sta.e came0 :: ext) .ne fd (.dat (.list [])) = cmpR (cameO Sta.e came0 :: ext) .ne fd (.dat (.list [])) := rfl
    rw [this]
    simp only [cmpR, hfd, rd_datS, cmpP, deep_l0', if_true, eqv_l, eqvAll_xn]
    cases front <;> simp
  by_cases hf : front = []
  · subst hf
    simp [hcmp, frz_came]
    exact ⟨came0, ⟨d, si, hlv⟩, rfl⟩
  · have hbl : bfD (cameO Sta.e came0 :: (ext ++ [.lst []])) .list [fd] = some (.dat (.list (front.map Sta.e))) := by
      have : rd (cameO Sta.e came0 :: (ext ++ [.lst []])) fd = some (.list (front.map Sta.e)) := by
        cases fd with
        | ref m =>
          simp only [rd] at hfd ⊢
          cases q : (cameO Sta.e came0 :: ext)[m]? with
          | none => rw [q] at hfd; cases hfd
          | some o =>
            rw [q] at hfd
            have hm := (List.getElem?_eq_some_iff.mp q).1
            rw [← List.cons_append, List.getElem?_append_left hm, q]
            exact hfd
        | _ => exact hfd
      simp only [bfD, rds, this]; rfl
    simp [hcmp, hf, hbl]
    refine ⟨by omega, ?_⟩
    refine forC_wp (fun p : Sta => .dat p.e) (RFor r d came0 front ext fd) ?_ ?_ front _ _ ⟨[], startS, came0, [], a4, a5, a6, by simp, SrM.begin _ si, rfl, rfl, rfl⟩
    · rintro x rest ρ st ⟨dn, h0, came, later, a4, a5, a6, hdn, sm', hlt, rfl, rfl⟩
      have hx : x ∈ front := by rw [← hdn]; simp
      simp [hb6]
      refine forC_wp (fun e : Evn => .dat e.e) (REv r d came0 front ext fd dn x) ?_ ?_ (evsOf r) _ _ ⟨[], came, later, a5, a6, by simp, sm'.at x, by rw [hlt]; rfl, rfl, rfl⟩
      · rintro e rs ρ st ⟨de, came, later, a5, a6, hde, sm', hlt, rfl, rfl⟩
        have he : e ∈ evsOf r := by rw [← hde]; simp
        obtain ⟨es, rw1, rv, rr, rfn, rl⟩ := sm'.rf x hx
        have xo : x.Ok r := sr_ok ro rv rr
        have l1 : x.ws.length ≤ 1000 := by have := xo.len ro; omega
        have hlen := congrArg List.length sm'.ks
        simp at hlen
        have k2 : came.length ≤ 3120 := by
          have nd := sm'.md.nd
          rw [← sm'.ks] at nd
          have := keysS_le ro sm nd fun q hq => by
            rw [sm'.ks] at hq
            rcases List.mem_append.mp hq with z | z
            · obtain ⟨fs, f1, f2, _, _⟩ := si.lv.rc q z
              exact sr_ok ro f1 f2
            · obtain ⟨fs, _, f1, f2, _, _⟩ := sm'.rl q z
              exact sr_ok ro f1 f2
          simpa using this
        have ekey : (doneS r x e).1 = succS r x e := rfl
        have hin := fun (h : Hs) => in_came (enc := Sta.e) Sta.peq Sta.key (f := fun v => D.dat (vE Sta.e v)) (came := came) (h := cameO Sta.e came :: h) (n := 0) rfl (succS r x e)
        by_cases hi : succS r x e ∈ came.map (·.1)
        · simp only [hi, decide_true, Bool.not_true] at hin
          simp [l1, ekey, hin]
          refine ⟨de ++ [e], came, later, _, _, by simpa using hde, sm'.old hx he rfl hi, ?_, rfl, rfl⟩
          rw [laterE_snoc, ← hlt, if_pos (by rw [← sm'.ks]; exact hi)]
        · simp only [hi, decide_false, Bool.not_false] at hin
          have hput := fun (h : Hs) => put_came (enc := Sta.e) Sta.peq Sta.key (f := fun v => D.dat (vE Sta.e v)) (came := came) (h := cameO Sta.e came :: h) (n := 0) rfl (k := succS r x e) (some (x, e)) hi (by omega)
          simp only [vE] at hput
          have hz : later.length < sizeLine := by omega
          simp [l1, ekey, hin, hput, appAt, hz]
          refine ⟨de ++ [e], came ++ [(succS r x e, some (x, e))], later ++ [succS r x e], _, _, by simpa using hde, sm'.new hx he rfl hi, ?_, ?_, rfl⟩
          · rw [laterE_snoc, ← hlt, if_neg (by rw [← sm'.ks]; exact hi)]
          · simp only [cameO, List.map_append, List.map_cons, List.map_nil]
            rfl
      · rintro ρ st ⟨de, came, later, a5, a6, hde, sm', hlt, rfl, rfl⟩
        simp at hde
        subst hde
        exact ⟨dn ++ [x], x, came, later, _, a5, a6, by simpa using hdn, sm'.move x, by rw [laterF_snoc]; exact hlt, rfl, rfl⟩
    · rintro ρ st ⟨dn, h0, came, later, a4, a5, a6, hdn, sm', hlt, rfl, rfl⟩
      simp at hdn
      subst hdn
      simp
      have s2 := sm'.done si hf
      have hlen := congrArg List.length sm'.ks
      simp at hlen
      refine ⟨if later = [] then 0 else 3121 - came.length, ?_, d + 1, came, later, _, .ref (ext.length + 1), _, _, _, _, s2, ?_, rfl, by simp, rfl, rfl⟩
      · have k2 : came.length ≤ 3120 := by
          have := keysS_le ro sm s2.lv.nd fun k hk => by
            obtain ⟨es, e1, e2, _, _⟩ := s2.lv.rc k hk
            exact sr_ok ro e1 e2
          simpa using this
        split
        · omega
        · rename_i hl
          have := List.length_pos_iff.mpr hl
          omega
      · rw [lvl, hlv, ← hlt, sm'.ks]
end L2.LC

set_option maxHeartbeats 2000000
/-! LS: the law's own search for states. -/
namespace L2.LC
open PySem
def tabI (came : List (Sta × Int)) : Ob := .tab (came.map fun q => (q.1.e, dI q.2))
def MInv (r : Ru) (n : Nat) (ρ : En) (st : Hs) : Prop := ∃ d came front ext fd a4 a5 a6 a7, BLv startS (succS r) noBad (evsOf r) d (came.map (·.1)) front ∧ lvl startS (succS r) (evsOf r) d = (came.map (·.1), front) ∧
      st = tabI came :: ext ∧ rd st fd = some (.list (front.map Sta.e)) ∧ n = (if front = [] then 0 else 3121 - came.length) ∧
      ρ = [some (.dat r.e), some fd, some (dI d), some (.ref 0), a4, a5, a6, a7]
def MFor (r : Ru) (d : Nat) (ks0 : List Sta) (front : List Sta) (ext : Hs) (fd : D) (rest : List Sta) (ρ : En) (st : Hs) : Prop := ∃ dn h came later a5 a6 a7, dn ++ rest = front ∧ BMd (succS r) noBad (evsOf r) ks0 front dn h [] later ∧ later = laterF (succS r) (evsOf r) ks0 dn [] ∧ came.map (·.1) = ks0 ++ later ∧
      st = tabI came :: (ext ++ [.lst (later.map fun p => .dat p.e)]) ∧
      ρ = [some (.dat r.e), some fd, some (dI (d + 1)), some (.ref 0), some (.ref (ext.length + 1)), a5, a6, a7]
def MEv (r : Ru) (d : Nat) (ks0 : List Sta) (front : List Sta) (ext : Hs) (fd : D) (dn : List Sta) (h : Sta) (rest : List Evn) (ρ : En) (st : Hs) : Prop := ∃ de came later a6 a7, de ++ rest = evsOf r ∧ BMd (succS r) noBad (evsOf r) ks0 front dn h de later ∧ later = laterE (succS r) ks0 h de (laterF (succS r) (evsOf r) ks0 dn []) ∧ came.map (·.1) = ks0 ++ later ∧
      st = tabI came :: (ext ++ [.lst (later.map fun p => .dat p.e)]) ∧
      ρ = [some (.dat r.e), some fd, some (dI (d + 1)), some (.ref 0), some (.ref (ext.length + 1)), some (.dat h.e), a6, a7]
theorem valsD_int (came : List (Sta × Int)) : valsD (came.map fun q => (q.1.e, dI q.2)) = some (came.map fun q => (q.1.e, .int q.2)) := by
  induction came with
  | nil => rfl
  | cons q qs ih => simp [valsD, ih]
theorem frz_tabI (came : List (Sta × Int)) (ext : Hs) : frzD (.ref 0) (tabI came :: ext) = .ok (.dct (came.map fun q => (q.1.e, .int q.2))) (.gone :: ext) := by
  have h1 : rd (tabI came :: ext) (.ref 0) = none := rfl
  have h2 : tabD (tabI came :: ext) 0 = some (came.map fun q => (q.1.e, .int q.2)) := valsD_int came
  simp only [frzD, h1, h2]
  rfl
/-- what the law finds: the same keys -/
theorem wp_law_met (own : List FD) (k : Nat) {r : Ru} (ro : r.Ok) (sm : r.Small) : ∃ came : List (Sta × Int), (∃ d, lvl startS (succS r) (evsOf r) d = (came.map (·.1), [])) ∧ ∀ h, evF (PT own) (k + 5) 119 [.dat r.e] h = .ok (.dct (came.map fun q => (q.1.e, .int q.2))) h := by
  suffices hs : ∃ p, (∃ came : List (Sta × Int), (∃ d, lvl startS (succS r) (evsOf r) d = (came.map (·.1), [])) ∧ p = came.map fun q => (q.1.e, PyData.int q.2)) ∧ ∀ h, evF (PT own) (k + 5) 119 [.dat r.e] h = .ok (.dct p) h by
    obtain ⟨p, ⟨came, hc, rfl⟩, he⟩ := hs
    exact ⟨came, hc, he⟩
  refine evF_pureDW (fd := fd_law_met) (by rfl) rfl rfl ?_
  have hb6 : r.bs.length ≤ 1000 := by have := sm.b4; omega
  have line : sizeLine = 16777216 := rfl
  simp [fd_law_met, startE]
  refine whlC_wp (MInv r) ?_ turns 3120 (by have : turns = 2 ^ 64 := rfl; omega) _ _
    ⟨0, [(startS, 0)], [startS], [], .dat (.list [startS.e]), none, none, none, none, BLv.begin _ _ _ _, rfl, rfl, rfl, by simp, rfl⟩
  rintro n ρ st ⟨d, came0, front, ext, fd, a4, a5, a6, a7, lv, hlv, rfl, hfd, rfl, rfl⟩
  have kl : came0.length ≤ 3120 := by
    have := keysS_le ro sm lv.nd fun k hk => by
      obtain ⟨es, e1, e2, _, _⟩ := lv.rc k hk
      exact sr_ok ro e1 e2
    simpa using this
  have hcmp : cmpD (tabI came0 :: ext) .ne fd (.dat (.list [])) = some (!decide (front = [])) := by
    have : cmpD (tabI came0 :: ext) .ne fd (.dat (.list [])) = cmpR (tabI came0 :: ext) .ne fd (.dat (.list [])) := rfl
    rw [this]
    simp only [cmpR, hfd, rd_datS, cmpP, deep_l0', if_true, eqv_l, eqvAll_xn]
    cases front <;> simp
  by_cases hf : front = []
  · subst hf
    simp [hcmp, frz_tabI]
    exact ⟨came0, ⟨d, hlv⟩, rfl⟩
  · have hbl : bfD (tabI came0 :: (ext ++ [.lst []])) .list [fd] = some (.dat (.list (front.map Sta.e))) := by
      have : rd (tabI came0 :: (ext ++ [.lst []])) fd = some (.list (front.map Sta.e)) := by
        cases fd with
        | ref m =>
          simp only [rd] at hfd ⊢
          cases q : (tabI came0 :: ext)[m]? with
          | none => rw [q] at hfd; cases hfd
          | some o =>
            rw [q] at hfd
            have hm := (List.getElem?_eq_some_iff.mp q).1
            rw [← List.cons_append, List.getElem?_append_left hm, q]
            exact hfd
        | _ => exact hfd
      simp only [bfD, rds, this]; rfl
    simp [hcmp, hf, hbl]
    refine ⟨by omega, ?_⟩
    refine forC_wp (fun p : Sta => .dat p.e) (MFor r d (came0.map (·.1)) front ext fd) ?_ ?_ front _ _ ⟨[], startS, came0, [], a5, a6, a7, by simp, BMd.begin lv, rfl, by simp, rfl, rfl⟩
    · rintro x rest ρ st ⟨dn, h0, came, later, a5, a6, a7, hdn, md, hlt, hks, rfl, rfl⟩
      have hx : x ∈ front := by rw [← hdn]; simp
      simp [hb6]
      refine forC_wp (fun e : Evn => .dat e.e) (MEv r d (came0.map (·.1)) front ext fd dn x) ?_ ?_ (evsOf r) _ _ ⟨[], came, later, a6, a7, by simp, ⟨md.nd, md.dn, by simp, md.lt⟩, by rw [hlt]; rfl, hks, rfl, rfl⟩
      · rintro e rs ρ st ⟨de, came, later, a6, a7, hde, md, hlt, hks, rfl, rfl⟩
        have he : e ∈ evsOf r := by rw [← hde]; simp
        obtain ⟨es, rv, rr, rfn, rl⟩ := lv.rf x hx
        have xo : x.Ok r := sr_ok ro rv rr
        have l1 : x.ws.length ≤ 1000 := by have := xo.len ro; omega
        have hlen := congrArg List.length hks
        simp at hlen
        have k2 : came.length ≤ 3120 := by
          have nd := md.nd
          rw [← hks] at nd
          have := keysS_le ro sm nd fun q hq => by
            rw [hks] at hq
            rcases List.mem_append.mp hq with z | z
            · obtain ⟨fs, f1, f2, _, _⟩ := lv.rc q z
              exact sr_ok ro f1 f2
            · obtain ⟨hh, hhf, e2, he2, _, rfl⟩ := md.lt q z
              obtain ⟨fs, f1, f2, _, _⟩ := lv.rf hh hhf
              exact sr_ok ro (es := fs ++ [e2]) (fun y hy => by
                rcases List.mem_append.mp hy with q | q
                · exact f1 y q
                · simp at q; subst q; exact he2) (by rw [runK_app, f2]; rfl)
          simpa using this
        have ekey : (doneS r x e).1 = succS r x e := rfl
        have hin := fun (h : Hs) => in_came (enc := Sta.e) Sta.peq Sta.key (f := fun v : Int => dI v) (came := came) (h := tabI came :: h) (n := 0) rfl (succS r x e)
        have nx := md.next hx he rfl
        by_cases hi : succS r x e ∈ came.map (·.1)
        · simp only [hi, decide_true, Bool.not_true] at hin
          rw [if_pos (by rw [← hks]; exact hi)] at nx
          simp [l1, ekey, hin]
          refine ⟨de ++ [e], came, later, _, _, by simpa using hde, nx, ?_, hks, rfl, rfl⟩
          rw [laterE_snoc, ← hlt, if_pos (by rw [← hks]; exact hi)]
        · simp only [hi, decide_false, Bool.not_false] at hin
          rw [if_neg (by rw [← hks]; exact hi)] at nx
          have hput := fun (h : Hs) => put_came (enc := Sta.e) Sta.peq Sta.key (f := fun v : Int => dI v) (came := came) (h := tabI came :: h) (n := 0) rfl (k := succS r x e) ((d : Int) + 1) hi (by omega)
          have hz : later.length < sizeLine := by omega
          simp [l1, ekey, hin, hput, appAt, hz]
          refine ⟨de ++ [e], came ++ [(succS r x e, (d : Int) + 1)], later ++ [succS r x e], _, _, by simpa using hde, nx, ?_, by simp [hks], ?_, rfl⟩
          · rw [laterE_snoc, ← hlt, if_neg (by rw [← hks]; exact hi)]
          · simp only [tabI, List.map_append, List.map_cons, List.map_nil]
      · rintro ρ st ⟨de, came, later, a6, a7, hde, md, hlt, hks, rfl, rfl⟩
        simp at hde
        subst hde
        exact ⟨dn ++ [x], x, came, later, _, a6, a7, by simpa using hdn, md.move, by rw [laterF_snoc]; exact hlt, hks, rfl, rfl⟩
    · rintro ρ st ⟨dn, h0, came, later, a5, a6, a7, hdn, md, hlt, hks, rfl, rfl⟩
      simp at hdn
      subst hdn
      simp
      have s2 := md.done lv
      rw [← hks] at s2
      have hlen := congrArg List.length hks
      simp at hlen
      refine ⟨if later = [] then 0 else 3121 - came.length, ?_, d + 1, came, later, _, .ref (ext.length + 1), _, _, _, _, s2, ?_, rfl, by simp, rfl, rfl⟩
      · have k2 : came.length ≤ 3120 := by
          have := keysS_le ro sm s2.nd fun k hk => by
            obtain ⟨es, e1, e2, _, _⟩ := s2.rc k hk
            exact sr_ok ro e1 e2
          simpa using this
        split
        · omega
        · rename_i hl
          have := List.length_pos_iff.mpr hl
          omega
      · rw [lvl, hlv, ← hlt, hks]
end L2.LC

set_option maxHeartbeats 2000000
/-! LS: steps alone come to rest. -/
namespace L2.LC
open PySem
def distS (r : Ru) (s : Sta) : Nat :=
  if r.pk = .nearest then (absI (nearS s - s.fl)).toNat else
  if r.pk = .eldest then (match s.ws with | [] => 0 | b :: _ => (absI (b.f - s.fl)).toNat) else
  match headS r s with
  | .up => (maxI (s.ws.map (·.f)) - s.fl).toNat
  | .down => (s.fl - minI (s.ws.map (·.f))).toNat
  | _ => 0
def phaseS (r : Ru) (s : Sta) : Nat :=
  if s.ws = [] then 2 * s.fl.toNat + (if s.hd = .none then 0 else 1) else
  if servS r s = [] then 1 + distS r s else 0
def muS (r : Ru) (s : Sta) : Nat := 100 * s.ws.length + (if 0 < s.door then 50 + s.door.toNat else phaseS r s)
theorem dist_le {r : Ru} {s : Sta} (ro : r.Ok) (ok : s.Ok r) (hw : s.ws ≠ []) : distS r s ≤ 6 := by
  have f0 := ok.f0
  have fl := ok.fl
  have f6 := ro.f6
  have hb : ∀ b ∈ s.ws, 0 ≤ b.f ∧ b.f ≤ r.fl - 1 := fun b h => ⟨(ro.fl_of (ok.ws b h)).1, (ro.fl_of (ok.ws b h)).2.1⟩
  have hne : s.ws.map (·.f) ≠ [] := by simpa using hw
  obtain ⟨b1, h1, e1⟩ := List.mem_map.mp (minI_spec hne).1
  obtain ⟨b2, h2, e2⟩ := List.mem_map.mp (maxI_spec hne).1
  have q1 := hb b1 h1
  have q2 := hb b2 h2
  unfold distS
  split
  · obtain ⟨b, h, e⟩ := nearS_mem s hw
    have := hb b h
    have := absI_or (nearS s - s.fl)
    omega
  split
  · split
    · omega
    · rename_i b bs hc
      have := hb b (by rw [hc]; simp)
      have := absI_or (b.f - s.fl)
      omega
  split <;> omega
theorem phase_le {r : Ru} {s : Sta} (ro : r.Ok) (ok : s.Ok r) : phaseS r s ≤ 13 := by
  have fl := ok.fl
  have f6 := ro.f6
  unfold phaseS
  split
  · split <;> omega
  · rename_i hw
    split
    · have := dist_le ro ok hw; omega
    · omega
theorem mu_le {r : Ru} {s : Sta} (ro : r.Ok) (ok : s.Ok r) : muS r s ≤ 700 := by
  have h6 := ok.len ro
  have := phase_le ro ok
  have := ok.dl
  have := ro.o3
  unfold muS
  split <;> omega
theorem near_min (s : Sta) {b : Bt} (hb : b ∈ s.ws) : absI (nearS s - s.fl) ≤ absI (b.f - s.fl) := by
  cases hd : s.ws with
  | nil => rw [hd] at hb; cases hb
  | cons c cs =>
    obtain ⟨h1, h2⟩ := minNr_spec (nrOf s c) (cs.map (nrOf s))
    have hn : nearS s = (minNr (nrOf s c) (cs.map (nrOf s))).g := by simp [nearS, hd]
    rw [hn]
    generalize minNr (nrOf s c) (cs.map (nrOf s)) = m at *
    have hm : m.d = absI (m.g - s.fl) := by
      rcases List.mem_cons.mp h1 with rfl | h1
      · rfl
      · obtain ⟨x, _, rfl⟩ := List.mem_map.mp h1; rfl
    have hx : nrOf s b ∈ nrOf s c :: cs.map (nrOf s) := by
      rw [hd] at hb
      rcases List.mem_cons.mp hb with rfl | hb
      · simp
      · exact List.mem_cons_of_mem _ (List.mem_map_of_mem hb)
    have := (Nr.lt_f (h2 _ hx)).1
    rw [hm] at this
    exact this
theorem head_sweep {r : Ru} {s : Sta} (hp : r.pk = .sweep) (hw : s.ws ≠ []) : headS r s = if s.ws.any (fun b => decide (s.fl < b.f)) && !(decide (s.hd = .down) && s.ws.any (fun b => decide (b.f < s.fl))) then .up else if s.ws.any (fun b => decide (b.f < s.fl)) then .down else .none := by
  simp only [headS, hw, hp, if_false, reduceCtorEq]
theorem free_turn {r : Ru} {old new : Wd} {b : Bt} (hb : b.w ≠ .none) (hn : new ≠ .inn) (ho : (old = .up ∧ new ≠ .up) ∨ (old = .down ∧ new ≠ .down)) : freeS r old new b = true := by
  obtain ⟨w, f⟩ := b
  simp only at hb
  unfold freeS
  rcases ho with ⟨rfl, ho⟩ | ⟨rfl, ho⟩ <;> cases new <;> cases w <;> cases r.tk <;> simp_all
/-- moving brings nearer -/
theorem dist_move {r : Ru} {s : Sta} (ro : r.Ok) (ok : s.Ok r) (hw : s.ws ≠ []) (hs : servS r s = []) : phaseS r ⟨s.fl + (headS r s).way, headS r s, 0, s.ws⟩ < phaseS r s := by
  have free : ∀ b ∈ s.ws, b.f = s.fl → freeS r s.hd (headS r s) b = false := fun b hb hf => by
    cases q : freeS r s.hd (headS r s) b with
    | false => rfl
    | true =>
      have : b ∈ servS r s := List.mem_filter.mpr ⟨hb, by simp [hf, q]⟩
      rw [hs] at this; cases this
  have nn : headS r s = .none → ∀ b ∈ s.ws, b.f ≠ s.fl := fun h b hb hf => by
    have := free b hb hf
    rw [h] at this
    simp [freeS] at this
  have e2 : phaseS r s = 1 + distS r s := by simp [phaseS, hw, hs]
  rw [e2]
  by_cases hserv : servS r ⟨s.fl + (headS r s).way, headS r s, 0, s.ws⟩ = []
  · have e1 : phaseS r ⟨s.fl + (headS r s).way, headS r s, 0, s.ws⟩ = 1 + distS r ⟨s.fl + (headS r s).way, headS r s, 0, s.ws⟩ := by simp [phaseS, hw, hserv]
    rw [e1]
    have goal : distS r ⟨s.fl + (headS r s).way, headS r s, 0, s.ws⟩ < distS r s := by
      cases hp : r.pk with
      | nearest =>
        obtain ⟨b, hb, eb⟩ := nearS_mem s hw
        have hh : headS r s = towardsS s.fl (nearS s) := by simp [headS, hw, hp]
        have nm := near_min ⟨s.fl + (headS r s).way, headS r s, 0, s.ws⟩ hb
        simp only at nm
        simp only [distS, hp, if_true]
        have a1 := absI_or (nearS s - s.fl)
        have a2 := absI_or (b.f - (s.fl + (headS r s).way))
        have a3 := absI_or (nearS ⟨s.fl + (headS r s).way, headS r s, 0, s.ws⟩ - (s.fl + (headS r s).way))
        by_cases c1 : nearS s = s.fl
        · exact absurd (eb.trans c1) (nn (by rw [hh, towardsS, if_pos c1]) b hb)
        · by_cases c2 : s.fl < nearS s
          · have : headS r s = .up := by rw [hh, towardsS, if_neg c1, if_pos c2]
            have hway : (headS r s).way = 1 := by rw [this]; rfl
            omega
          · have : headS r s = .down := by rw [hh, towardsS, if_neg c1, if_neg c2]
            have hway : (headS r s).way = -1 := by rw [this]; rfl
            omega
      | eldest =>
        obtain ⟨b, bs, hc⟩ : ∃ b bs, s.ws = b :: bs := by cases hc : s.ws with | nil => exact absurd hc hw | cons b bs => exact ⟨b, bs, rfl⟩
        have hb : b ∈ s.ws := by rw [hc]; simp
        have hh : headS r s = towardsS s.fl b.f := by simp [headS, hc, hp]
        simp only [distS, hp, hc, reduceCtorEq, if_false, if_true]
        have a1 := absI_or (b.f - s.fl)
        have a2 := absI_or (b.f - (s.fl + (headS r s).way))
        by_cases c1 : b.f = s.fl
        · exact absurd c1 (nn (by rw [hh, towardsS, if_pos c1]) b hb)
        · by_cases c2 : s.fl < b.f
          · have : headS r s = .up := by rw [hh, towardsS, if_neg c1, if_pos c2]
            have hway : (headS r s).way = 1 := by rw [this]; rfl
            omega
          · have : headS r s = .down := by rw [hh, towardsS, if_neg c1, if_neg c2]
            have hway : (headS r s).way = -1 := by rw [this]; rfl
            omega
      | sweep =>
        have hne : s.ws.map (·.f) ≠ [] := by simpa using hw
        obtain ⟨n1, n2⟩ := minI_spec hne
        obtain ⟨x1, x2⟩ := maxI_spec hne
        obtain ⟨bn, hbn, en⟩ := List.mem_map.mp n1
        obtain ⟨bx, hbx, ex⟩ := List.mem_map.mp x1
        have hs0 := head_sweep hp hw
        cases hh : headS r s with
        | inn => exact absurd hh (head_in r s)
        | none =>
          exfalso
          rw [hh] at hs0
          have hab : s.ws.any (fun b => decide (s.fl < b.f)) = false := by
            cases q : s.ws.any (fun b => decide (s.fl < b.f)) with
            | false => rfl
            | true => rw [q] at hs0; cases q2 : s.ws.any (fun b => decide (b.f < s.fl)) <;> simp [q2] at hs0 <;> split at hs0 <;> cases hs0
          have hbe : s.ws.any (fun b => decide (b.f < s.fl)) = false := by
            cases q : s.ws.any (fun b => decide (b.f < s.fl)) with
            | false => rfl
            | true => simp [q, hab] at hs0
          simp at hab hbe
          have g1 := hab bx hbx
          have g2 := hbe bx hbx
          exact nn hh bx hbx (by omega)
        | up =>
          obtain ⟨b0, hb0, l0⟩ := head_up hh
          have m0 := x2 b0.f (List.mem_map_of_mem hb0)
          rw [hh] at hserv
          simp only [Wd.way] at hserv ⊢
          have h2 := head_sweep (s := ⟨s.fl + 1, .up, 0, s.ws⟩) hp hw
          simp only [reduceCtorEq, decide_false, Bool.false_and, Bool.not_false, Bool.and_true] at h2
          by_cases hm : s.fl + 1 < maxI (s.ws.map (·.f))
          · have hab : s.ws.any (fun b => decide (s.fl + 1 < b.f)) = true := by
              rw [List.any_eq_true]; exact ⟨bx, hbx, by simp only [decide_eq_true_eq]; omega⟩
            rw [hab, if_pos rfl] at h2
            simp only [distS, hp, hh, h2, reduceCtorEq, if_false]
            omega
          · exfalso
            have hab : s.ws.any (fun b => decide (s.fl + 1 < b.f)) = false := by
              rw [List.any_eq_false]; intro b hb q
              have := x2 b.f (List.mem_map_of_mem hb)
              simp only [decide_eq_true_eq] at q
              omega
            have hnu : headS r ⟨s.fl + 1, .up, 0, s.ws⟩ ≠ .up := by
              rw [h2, hab]
              simp only [Bool.false_eq_true, if_false]
              split <;> simp
            have : bx ∈ servS r ⟨s.fl + 1, .up, 0, s.ws⟩ := List.mem_filter.mpr ⟨hbx, by
              simp only [Bool.and_eq_true, decide_eq_true_eq]
              exact ⟨by omega, free_turn (ro.fl_of (ok.ws bx hbx)).2.2 (head_in _ _) (.inl ⟨rfl, hnu⟩)⟩⟩
            rw [hserv] at this
            cases this
        | down =>
          obtain ⟨b0, hb0, l0⟩ := head_down hh
          have m0 := n2 b0.f (List.mem_map_of_mem hb0)
          rw [hh] at hserv
          simp only [Wd.way] at hserv ⊢
          have h2 := head_sweep (s := ⟨s.fl + -1, .down, 0, s.ws⟩) hp hw
          simp only [decide_true, Bool.true_and] at h2
          by_cases hm : minI (s.ws.map (·.f)) < s.fl + -1
          · have hbe : s.ws.any (fun b => decide (b.f < s.fl + -1)) = true := by
              rw [List.any_eq_true]; exact ⟨bn, hbn, by simp only [decide_eq_true_eq]; omega⟩
            rw [hbe] at h2
            simp only [Bool.not_true, Bool.and_false, Bool.false_eq_true, if_false, if_true] at h2
            simp only [distS, hp, hh, h2, reduceCtorEq, if_false]
            omega
          · exfalso
            have hbe : s.ws.any (fun b => decide (b.f < s.fl + -1)) = false := by
              rw [List.any_eq_false]; intro b hb q
              have := n2 b.f (List.mem_map_of_mem hb)
              simp only [decide_eq_true_eq] at q
              omega
            have hnu : headS r ⟨s.fl + -1, .down, 0, s.ws⟩ ≠ .down := by
              rw [h2, hbe]
              simp only [Bool.not_false, Bool.and_true, Bool.false_eq_true, if_false]
              split <;> simp
            have : bn ∈ servS r ⟨s.fl + -1, .down, 0, s.ws⟩ := List.mem_filter.mpr ⟨hbn, by
              simp only [Bool.and_eq_true, decide_eq_true_eq]
              exact ⟨by omega, free_turn (ro.fl_of (ok.ws bn hbn)).2.2 (head_in _ _) (.inr ⟨rfl, hnu⟩)⟩⟩
            rw [hserv] at this
            cases this
    omega
  · have e1 : phaseS r ⟨s.fl + (headS r s).way, headS r s, 0, s.ws⟩ = 0 := by simp [phaseS, hw, hserv]
    omega
theorem mu_step {r : Ru} {s : Sta} (ro : r.Ok) (ok : s.Ok r) (hc : (stepS r s).1 ≠ s) : muS r (stepS r s).1 < muS r s := by
  have so := step_ok ro ok
  have hph := phase_le ro so
  have d0 := ok.d0
  unfold stepS at hc so hph ⊢
  split at hc
  · rename_i hd
    rw [if_pos hd] at so hph ⊢
    have hw : (closeS r s).ws = s.ws := by unfold closeS; split <;> rfl
    have hdd : (closeS r s).door = s.door - 1 := by unfold closeS; split <;> rfl
    simp only [muS, hw, hdd, hd, if_true]
    simp only at hph
    split <;> omega
  · rename_i hd
    rw [if_neg hd] at so hph ⊢
    split at hc
    · rename_i hw
      rw [if_pos hw] at so hph ⊢
      split at hc
      · rename_i hq
        rw [if_pos hq] at so hph ⊢
        simp only [Bool.and_eq_true, decide_eq_true_eq] at hq
        simp only [muS, phaseS, hw, hd, if_false, if_true, List.length_nil, Int.lt_irrefl, reduceCtorEq]
        omega
      · rename_i hq
        rw [if_neg hq] at so hph ⊢
        simp only [muS, phaseS, hw, hd, if_false, if_true, List.length_nil, Int.lt_irrefl]
        by_cases hh : s.hd = .none
        · exfalso
          apply hc
          have : s.door = 0 := by omega
          obtain ⟨a, b, c, d⟩ := s
          simp_all
        · simp [hh]
    · rename_i hw
      rw [if_neg hw] at so hph ⊢
      split at hc
      · rename_i hs
        rw [if_pos hs] at so hph ⊢
        have := dist_move ro ok hw hs
        simp only [muS, hd, if_false, Int.lt_irrefl]
        omega
      · rename_i hs
        rw [if_neg hs] at so hph ⊢
        have hl : (s.ws.filter fun b => !(servS r s).contains b).length < s.ws.length := by
          obtain ⟨b, hb⟩ := List.exists_mem_of_ne_nil _ hs
          have hb2 := (List.mem_filter.mp hb).1
          exact List.length_filter_lt_length_iff_exists.mpr ⟨b, hb2, by simp [hb]⟩
        have o3 := ro.o3
        have o1 := ro.o1
        simp only [muS, hd, if_false]
        split <;> omega
/-! ### journeys -/
def jourN (r : Ru) : Nat → Sta → List Tl
  | 0, _ => []
  | n + 1, s => if (stepS r s).1 = s then [] else (stepS r s).2 :: jourN r n (stepS r s).1
theorem jourN_eq {r : Ru} (ro : r.Ok) : ∀ (n m : Nat) (s : Sta), s.Ok r → muS r s < n → muS r s < m → jourN r n s = jourN r m s
  | 0, _, _, _, h, _ => by omega
  | _ + 1, 0, _, _, _, h => by omega
  | n + 1, m + 1, s, ok, h1, h2 => by
    simp only [jourN]
    split
    · rfl
    · rename_i hc
      have := mu_step ro ok hc
      rw [jourN_eq ro n m _ (step_ok ro ok) (by omega) (by omega)]
def jourS (r : Ru) (s : Sta) : List Tl := jourN r 701 s
theorem jour_eq {r : Ru} {s : Sta} (ro : r.Ok) (ok : s.Ok r) : jourS r s = if (stepS r s).1 = s then [] else (stepS r s).2 :: jourS r (stepS r s).1 := by
  have h := mu_le ro ok
  have h2 := mu_le ro (step_ok ro ok)
  unfold jourS
  rw [jourN]
  split
  · rfl
  · rename_i hc
    have := mu_step ro ok hc
    rw [jourN_eq ro 700 701 _ (step_ok ro ok) (by omega) (by omega)]
theorem jour_len {r : Ru} (ro : r.Ok) : ∀ (n : Nat) (s : Sta), s.Ok r → (jourN r n s).length ≤ muS r s
  | 0, _, _ => by simp [jourN]
  | n + 1, s, ok => by
    simp only [jourN]
    split
    · simp
    · rename_i hc
      have := mu_step ro ok hc
      have := jour_len ro n _ (step_ok ro ok)
      simp only [List.length_cons]
      omega
def JInv (r : Ru) (s : Sta) (n : Nat) (ρ : En) (st : Hs) : Prop := ∃ s2 fnd, s2.Ok r ∧ n = muS r s2 ∧ fnd.length + muS r s2 ≤ 700 ∧ jourS r s = fnd ++ jourS r s2 ∧ ρ = [some (.dat r.e), some (.dat s2.e), some (.ref 0), some (.dat (stepS r s2).1.e), some (.dat (stepS r s2).2.e)] ∧ st = [.lst (fnd.map fun t : Tl => .dat t.e)]
section
variable (own : List FD) (k : Nat) (h : Hs)
@[simp] theorem ev_journey_in (r : Ru) (s : Sta) (ro : r.Ok) (ok : s.Ok r) : evF (PT own) (k + 5) 39 [.dat r.e, .dat s.e] h = .ok (.dat (.list ((jourS r s).map Tl.e))) h := by
  refine evF_pure (fd := fd_journey_in) (by rfl) rfl rfl ?_ h
  have l0 : s.ws.length ≤ 1000 := by have := ok.len ro; omega
  simp [fd_journey_in, l0]
  refine whlC_wp (JInv r s) ?_ turns (muS r s) (by have : turns = 2 ^ 64 := rfl; have := mu_le ro ok; omega) _ _ ⟨s, [], ok, rfl, by have := mu_le ro ok; simp; omega, by simp, rfl, rfl⟩
  rintro n ρ st ⟨s2, fnd, ok2, rfl, hl, hj, rfl, rfl⟩
  have l1 : (stepS r s2).1.ws.length ≤ 1000 := by have := (step_ok ro ok2).len ro; omega
  by_cases hc : (stepS r s2).1 = s2
  · have := jour_eq ro ok2
    rw [if_pos hc] at this
    rw [this] at hj
    simp [hc, frzD, hj]
  · have e := jour_eq ro ok2
    rw [if_neg hc] at e
    have hm := mu_step ro ok2 hc
    have hz : fnd.length < sizeLine := lt_line _ (by omega)
    simp [hc, appAt, hz, l1]
    exact ⟨by omega, muS r (stepS r s2).1, hm, (stepS r s2).1, fnd ++ [(stepS r s2).2], step_ok ro ok2, rfl, by simp; omega, by rw [hj, e]; simp, rfl, by simp⟩
@[simp] theorem ev_law_left (r : Ru) (s : Sta) (ro : r.Ok) (ok : s.Ok r) : evF (PT own) (k + 3) 120 [.dat r.e, .dat s.e] h = .ok (.dat (.int (jourS r s).length)) h := by
  refine evF_pure (fd := fd_law_left) (by rfl) rfl rfl ?_ h
  have l0 : s.ws.length ≤ 1000 := by have := ok.len ro; omega
  simp [fd_law_left, l0]
  refine whlC_wp (fun n ρ st => ∃ s2 c, s2.Ok r ∧ n = muS r s2 ∧ (jourS r s).length = c + (jourS r s2).length ∧ ρ = [some (.dat r.e), some (.dat s2.e), some (dI c), some (.dat (stepS r s2).1.e)] ∧ st = []) ?_ turns (muS r s) (by have : turns = 2 ^ 64 := rfl; have := mu_le ro ok; omega) _ _ ⟨s, 0, ok, rfl, by simp, rfl, rfl⟩
  rintro n ρ st ⟨s2, c, ok2, rfl, hj, rfl, rfl⟩
  have l1 : (stepS r s2).1.ws.length ≤ 1000 := by have := (step_ok ro ok2).len ro; omega
  by_cases hc : (stepS r s2).1 = s2
  · have := jour_eq ro ok2
    rw [if_pos hc] at this
    rw [this] at hj
    simp [hc, hj]
  · have e := jour_eq ro ok2
    rw [if_neg hc] at e
    have hm := mu_step ro ok2 hc
    simp [hc, l1]
    exact ⟨by omega, muS r (stepS r s2).1, hm, (stepS r s2).1, step_ok ro ok2, rfl, c + 1, by rw [hj, e]; simp; omega, rfl, by simp⟩
end
end L2.LC

set_option maxHeartbeats 2000000
/-! LS: any thing at all, as a rule, a state, an event, a play: what is told or refused. -/
namespace L2.LC
open PySem
/-! ### calls that raise -/
theorem evF_pureX {G : List FD} {k f : Nat} {fd : FD} {args : List D} {x : Xn} (hf : G[f]? = some fd) (ha : (dats args).isSome = true) (hn : args.length = fd.np)
    (w : ∃ s, evSs (evF G k) fd.body (args.map some ++ List.replicate fd.nl none) [] = .ex x s) (h : Hs) : evF G (k + 1) f args h = .ex x h := by
  obtain ⟨s, e⟩ := w
  simp only [evF, hf, callF]
  obtain ⟨ps, hps⟩ := Option.isSome_iff_exists.mp ha
  simp only [hps, runF, hn, if_true, e, R.bind_ex]
section
variable (p : PyData) (h : Hs)
@[simp] theorem rse_rule : kRse "BadRule" (.dat p) h = .ex ⟨"BadRule", p⟩ h := rfl
@[simp] theorem rse_state : kRse "BadState" (.dat p) h = .ex ⟨"BadState", p⟩ h := rfl
@[simp] theorem rse_play : kRse "BadPlay" (.dat p) h = .ex ⟨"BadPlay", p⟩ h := rfl
@[simp] theorem rse_paper : kRse "BadPaper" (.dat p) h = .ex ⟨"BadPaper", p⟩ h := rfl
@[simp] theorem rse_log : kRse "BadLog" (.dat p) h = .ex ⟨"BadLog", p⟩ h := rfl
@[simp] theorem rse_text : kRse "BadText" (.dat p) h = .ex ⟨"BadText", p⟩ h := rfl
@[simp] theorem rse_event : kRse "BadEvent" (.dat p) h = .ex ⟨"BadEvent", p⟩ h := rfl
@[simp] theorem rse_button : kRse "BadButton" (.dat p) h = .ex ⟨"BadButton", p⟩ h := rfl
@[simp] theorem rse_measure : kRse "BadMeasure" (.dat p) h = .ex ⟨"BadMeasure", p⟩ h := rfl
@[simp] theorem rse_most : kRse "TooMany" (.dat p) h = .ex ⟨"TooMany", p⟩ h := rfl
@[simp] theorem rse_missing : kRse "Missing" (.dat p) h = .ex ⟨"Missing", p⟩ h := rfl
@[simp] theorem rse_question : kRse "BadQuestion" (.dat p) h = .ex ⟨"BadQuestion", .none⟩ h := rfl
@[simp] theorem said_ok (d : D) : saidR (.ok d h) = .ok (dT [.str s_said]) h := rfl
@[simp] theorem said_no : saidR .no = .no := rfl
@[simp] theorem said_rule : saidR (.ex ⟨"BadRule", p⟩ h) = .ok (dT [.str s_rule, p]) h := rfl
@[simp] theorem said_state : saidR (.ex ⟨"BadState", p⟩ h) = .ok (dT [.str s_state, p]) h := rfl
@[simp] theorem said_play : saidR (.ex ⟨"BadPlay", p⟩ h) = .ok (dT [.str s_play, p]) h := rfl
@[simp] theorem said_paper : saidR (.ex ⟨"BadPaper", p⟩ h) = .ok (dT [.str s_paper, p]) h := rfl
@[simp] theorem said_log : saidR (.ex ⟨"BadLog", p⟩ h) = .ok (dT [.str s_log, p]) h := rfl
@[simp] theorem said_text : saidR (.ex ⟨"BadText", p⟩ h) = .ok (dT [.str s_text, p]) h := rfl
@[simp] theorem said_event : saidR (.ex ⟨"BadEvent", p⟩ h) = .ok (dT [.str s_event, p]) h := rfl
@[simp] theorem said_button : saidR (.ex ⟨"BadButton", p⟩ h) = .ok (dT [.str s_button, p]) h := rfl
@[simp] theorem said_measure : saidR (.ex ⟨"BadMeasure", p⟩ h) = .ok (dT [.str s_measure, p]) h := rfl
@[simp] theorem said_most : saidR (.ex ⟨"TooMany", p⟩ h) = .ok (dT [.str s_most, p]) h := rfl
@[simp] theorem said_missing : saidR (.ex ⟨"Missing", p⟩ h) = .ok (dT [.str s_missing, p]) h := rfl
@[simp] theorem said_question : saidR (.ex ⟨"BadQuestion", p⟩ h) = .ok (dT [.str s_question]) h := rfl
end
/-! ### parts of tuples -/
section
variable {α : Type} (xs : List α)
@[simp] theorem cut_t0 : cut xs none (some 0) = xs.take 0 := cut_to xs 0
end
@[simp] theorem slcP_Sta (s : Sta) (lo hi : Option Int) : slcP s.e lo hi = some (.tuple (cut [.int s.fl, .str s.hd.s, .int s.door, .tuple (s.ws.map Bt.e)] lo hi)) := rfl
/-! ### buttons -/
def toBt : PyData → Option Bt
  | .tuple [.str w, .int f] => if w = s_in then some ⟨.inn, f⟩ else if w = s_up then some ⟨.up, f⟩ else if w = s_down then some ⟨.down, f⟩ else none
  | _ => none
theorem toBt_some {p : PyData} {b : Bt} (h : toBt p = some b) : p = b.e ∧ b.w ≠ .none := by
  unfold toBt at h
  split at h
  · rename_i w f
    split at h
    · rename_i e; cases h; subst e; exact ⟨rfl, by simp⟩
    · split at h
      · rename_i e; cases h; subst e; exact ⟨rfl, by simp⟩
      · split at h
        · rename_i e; cases h; subst e; exact ⟨rfl, by simp⟩
        · cases h
  · cases h
theorem toBt_e {b : Bt} (h : b.w ≠ .none) : toBt b.e = some b := by
  obtain ⟨w, f⟩ := b
  cases w
  · rfl
  · rfl
  · rfl
  · exact absurd rfl h
def isButtonP (fl : Int) (p : PyData) : Bool := match toBt p with
  | some b => btOk fl b
  | none => false
theorem btOk_none {fl : Int} {b : Bt} (h : btOk fl b = true) : b.w ≠ .none := by
  intro q
  simp [btOk, q] at h
theorem isButtonP_e (fl : Int) (b : Bt) : isButtonP fl b.e = btOk fl b := by
  by_cases h : b.w = .none
  · obtain ⟨w, f⟩ := b
    cases h
    rfl
  · simp [isButtonP, toBt_e h]
theorem bts_of {f : PyData → Bool} (hf : ∀ p, f p = true → ∃ b, toBt p = some b) : ∀ {xs : List PyData}, xs.all f = true → xs = (xs.filterMap toBt).map Bt.e
  | [], _ => rfl
  | x :: xs, h => by
    simp only [List.all_cons, Bool.and_eq_true] at h
    obtain ⟨b, hb⟩ := hf x h.1
    simp only [List.filterMap_cons, hb, List.map_cons]
    rw [← bts_of hf h.2, ← (toBt_some hb).1]
theorem bts_to {bs : List Bt} (h : ∀ b ∈ bs, b.w ≠ .none) : (bs.map Bt.e).filterMap toBt = bs := by
  induction bs with
  | nil => rfl
  | cons b bs ih =>
    simp only [List.map_cons, List.filterMap_cons, toBt_e (h b (by simp))]
    rw [ih fun c hc => h c (by simp [hc])]
theorem isButtonP_bt {fl : Int} {p : PyData} (h : isButtonP fl p = true) : ∃ b, toBt p = some b := by
  unfold isButtonP at h
  split at h
  · rename_i b e; exact ⟨b, e⟩
  · cases h
def areButtonsP (f p : PyData) : Bool := match f, p with
  | .int n, .tuple xs => decide (2 ≤ n) && decide (n ≤ 6) && (decide (1 ≤ xs.length) && decide (xs.length ≤ 6)) && (xs.all (isButtonP n) && rising (xs.filterMap toBt))
  | _, _ => false
/-- the first that is not right -/
def firstBad : List (Str × Bool) → PyData
  | [] => .none
  | (w, b) :: r => if b then firstBad r else .tuple [.str w]
theorem firstBad_eq (rows : List (Str × Bool)) : firstBad rows = match rows.filter (fun q => !q.2) with
  | [] => .none
  | q :: _ => .tuple [.str q.1] := by
  induction rows with
  | nil => rfl
  | cons q r ih =>
    obtain ⟨w, b⟩ := q
    cases b <;> simp [firstBad, ih]
def ruleFaultP (p : PyData) : PyData := match p with
  | .tuple [a, b, c, d, e, f, g, i] => firstBad [(s_floors, isWholeP a 2 6), (s_buttons, areButtonsP a b), (s_pick, isWordP c [s_sweep, s_nearest, s_eldest]), (s_take, isWordP d [s_all, s_way, s_end]), (s_rest, isWordP e [s_stay, s_home]), (s_hold, f.isBool), (s_quick, g.isBool), (s_open, isWholeP i 1 3)]
  | _ => .tuple []
def isOfP (r : Ru) (p : PyData) : Bool := match toBt p with
  | some b => decide (b ∈ r.bs)
  | none => false
def wantsP (r : Ru) (p : PyData) : Bool := match p with
  | .tuple xs => xs.all (isOfP r) && (if r.pk = .eldest then rising (sortB (xs.filterMap toBt)) else rising (xs.filterMap toBt))
  | _ => false
def stateFaultP (r : Ru) (p : PyData) : PyData := match p with
  | .tuple [a, b, c, d] => firstBad [(s_floor, isWholeP a 0 (r.fl - 1)), (s_heading, isWordP b [s_up, s_down, s_none]), (s_door, isWholeP c 0 r.op), (s_wants, wantsP r d)]
  | _ => .tuple []
def isEventP (r : Ru) (p : PyData) : Bool := match p with
  | .tuple [.str a] => a == s_step
  | .tuple [.str a, b] => decide (a = s_press) && isOfP r b
  | _ => false
theorem len8 {α : Type} {xs : List α} (h : xs.length = 8) : ∃ a b c d e f g i, xs = [a, b, c, d, e, f, g, i] := by
  match xs, h with
  | [a, b, c, d, e, f, g, i], _ => exact ⟨a, b, c, d, e, f, g, i, rfl⟩
theorem len4 {α : Type} {xs : List α} (h : xs.length = 4) : ∃ a b c d, xs = [a, b, c, d] := by
  match xs, h with
  | [a, b, c, d], _ => exact ⟨a, b, c, d, rfl⟩
theorem len2 {α : Type} {xs : List α} (h : xs.length = 2) : ∃ a b, xs = [a, b] := by
  match xs, h with
  | [a, b], _ => exact ⟨a, b, rfl⟩
theorem len1 {α : Type} {xs : List α} (h : xs.length = 1) : ∃ a, xs = [a] := by
  match xs, h with
  | [a], _ => exact ⟨a, rfl⟩
theorem ruleFault_len {xs : List PyData} (h : xs.length ≠ 8) : ruleFaultP (.tuple xs) = .tuple [] := by
  unfold ruleFaultP
  split
  · rename_i e; cases e; exact absurd rfl h
  · rfl
theorem stateFault_len {r : Ru} {xs : List PyData} (h : xs.length ≠ 4) : stateFaultP r (.tuple xs) = .tuple [] := by
  unfold stateFaultP
  split
  · rename_i e; cases e; exact absurd rfl h
  · rfl
theorem isP_tuple (p : PyData) : isP .tuple p = p.isTuple := rfl
theorem isP_str (p : PyData) : isP .str p = p.isStr := rfl
theorem isP_bool (p : PyData) : isP .bool p = p.isBool := rfl
section
variable (own : List FD) (k : Nat) (h : Hs)
theorem ev_is_button_any (fl : Int) (p : PyData) : evF (PT own) (k + 2) 2 [.dat (.int fl), .dat p] h = .ok (.dat (.bool (isButtonP fl p))) h := by
  by_cases hb : ∃ b, toBt p = some b
  · obtain ⟨b, hb⟩ := hb
    rw [(toBt_some hb).1, isButtonP_e]
    exact ev_is_button own k h fl b
  have e0 : isButtonP fl p = false := by
    cases q : isButtonP fl p with
    | false => rfl
    | true => exact absurd (isButtonP_bt q) hb
  refine evF_pure (fd := fd_is_button) (by rfl) rfl rfl ?_ h
  rw [e0]
  cases p with
  | tuple xs =>
    by_cases hl : xs.length = 2
    · obtain ⟨a, c, rfl⟩ := len2 hl
      cases hw : isWordP a [s_in, s_up, s_down] with
      | false => simp [fd_is_button, hw]
      | true =>
        cases a with
        | str w =>
          simp [isWordP] at hw
          cases c with
          | int i => exact absurd (by rcases hw with rfl | rfl | rfl <;> exact ⟨_, rfl⟩) hb
          | _ => rcases hw with rfl | rfl | rfl <;> simp [fd_is_button, isWordP, isWholeP]
        | _ => simp [isWordP] at hw
    · have h2 : ¬ ((xs.length : Int) = 2) := by omega
      simp [fd_is_button, h2]
  | _ => simp [fd_is_button, isP_tuple, PyData.isTuple]
theorem ev_are_buttons_any (f p : PyData) : evF (PT own) (k + 3) 4 [.dat f, .dat p] h = .ok (.dat (.bool (areButtonsP f p))) h := by
  refine evF_pure (fd := fd_are_buttons) (by rfl) rfl rfl ?_ h
  cases hw : isWholeP f 2 6 with
  | false =>
    have e : areButtonsP f p = false := by
      unfold areButtonsP
      split
      · simp only [isWholeP] at hw; simp [hw]
      · rfl
    simp [fd_are_buttons, hw, e]
  | true =>
    cases f with
    | int n =>
      cases p with
      | tuple xs =>
        by_cases hl : 1 ≤ xs.length ∧ xs.length ≤ 6
        · have h7 : (1 : Int) ≤ xs.length := by omega
          have h8 : (xs.length : Int) ≤ 6 := by omega
          simp only [isWholeP] at hw
          simp [fd_are_buttons, isWholeP, hw, h7, h8]
          rw [compC_map (fun b : PyData => .dat b) (fun b => .bool (isButtonP n b)) _ _ fun p _ => by simp [ev_is_button_any]]
          cases q : xs.all (isButtonP n) with
          | false => simp [q, areButtonsP]
          | true =>
            have e := bts_of (fun p => isButtonP_bt) q
            have g : evF (PT own) (k + 2) 3 [.dat (.tuple xs)] [] = .ok (.dat (.bool (rising (xs.filterMap toBt)))) [] := by
              conv => lhs; rw [e]
              exact ev_are_rising own (k + 1) [] _
            simp only [Bool.and_eq_true, decide_eq_true_eq] at hw
            simp [q, areButtonsP, g, hw, hl]
        · have e : areButtonsP (.int n) (.tuple xs) = false := by
            simp only [areButtonsP]
            have : (decide (1 ≤ xs.length) && decide (xs.length ≤ 6)) = false := by
              cases z : (decide (1 ≤ xs.length) && decide (xs.length ≤ 6)) with
              | false => rfl
              | true => simp only [Bool.and_eq_true, decide_eq_true_eq] at z; exact absurd z hl
            rw [this]; simp
          by_cases h1 : (1 : Int) ≤ xs.length
          · have h8 : ¬ ((xs.length : Int) ≤ 6) := by omega
            simp [fd_are_buttons, hw, h1, h8, e]
          · simp [fd_are_buttons, hw, h1, e]
      | _ => simp [fd_are_buttons, hw, isP_tuple, PyData.isTuple, areButtonsP]
    | _ => simp [isWholeP] at hw
theorem ev_rule_fault_any (p : PyData) : evF (PT own) (k + 4) 5 [.dat p] h = .ok (.dat (ruleFaultP p)) h := by
  refine evF_pure (fd := fd_rule_fault) (by rfl) rfl rfl ?_ h
  cases p with
  | tuple xs =>
    by_cases hl : xs.length = 8
    · obtain ⟨a, b, c, d, e, f, g, i, rfl⟩ := len8 hl
      simp [fd_rule_fault, ev_are_buttons_any, isP_bool, ruleFaultP, firstBad_eq]
      refine Wp.of (compC_eq (fun q : Str × Bool => .dat (.tuple [.str q.1, .bool q.2])) (fun q => !q.2) (fun q => .tuple [.str q.1]) _ [(s_floors, isWholeP a 2 6), (s_buttons, areButtonsP a b), (s_pick, isWordP c [s_sweep, s_nearest, s_eldest]), (s_take, isWordP d [s_all, s_way, s_end]), (s_rest, isWordP e [s_stay, s_home]), (s_hold, f.isBool), (s_quick, g.isBool), (s_open, isWholeP i 1 3)] fun q _ => by simp) ?_
      generalize List.filter (fun q : Str × Bool => !q.2) [(s_floors, isWholeP a 2 6), (s_buttons, areButtonsP a b), (s_pick, isWordP c [s_sweep, s_nearest, s_eldest]), (s_take, isWordP d [s_all, s_way, s_end]), (s_rest, isWordP e [s_stay, s_home]), (s_hold, f.isBool), (s_quick, g.isBool), (s_open, isWholeP i 1 3)] = fl
      cases fl with
      | nil => simp
      | cons q fl => simp
    · have h2 : ¬ ((xs.length : Int) = 8) := by omega
      simp [fd_rule_fault, h2, ruleFault_len hl]
  | _ => simp [fd_rule_fault, isP_tuple, PyData.isTuple, ruleFaultP]
theorem any_dict {r : Ru} {xs : List PyData} (q : (r.bs.map Bt.e).any (fun y => y.eqv (.tuple xs)) = true) : ∃ b ∈ r.bs, xs = [.str b.w.s, .int b.f] ∨ ∃ c, xs = [.str b.w.s, .bool c] := by
  rw [List.any_eq_true] at q
  obtain ⟨y, hy, q⟩ := q
  obtain ⟨b, hb, rfl⟩ := List.mem_map.mp hy
  refine ⟨b, hb, ?_⟩
  simp only [Bt.e, eqv_t] at q
  match xs, q with
  | [], q => simp [PyData.eqvAll] at q
  | [x], q => simp [PyData.eqvAll] at q
  | [x, y], q =>
    simp only [PyData.eqvAll, Bool.and_eq_true] at q
    obtain ⟨q1, q2, _⟩ := q
    cases x with
    | str w =>
      simp at q1
      subst q1
      cases y with
      | int j => simp at q2; subst q2; exact .inl rfl
      | bool c => exact .inr ⟨c, rfl⟩
      | _ => simp [PyData.eqv] at q2
    | _ => simp [PyData.eqv] at q1
  | x :: y :: z :: r, q => simp [PyData.eqvAll] at q
theorem ev_is_of_any (r : Ru) (p : PyData) (ok : r.Ok) : evF (PT own) (k + 2) 11 [.dat r.e, .dat p] h = .ok (.dat (.bool (isOfP r p))) h := by
  by_cases hb : ∃ b, toBt p = some b
  · obtain ⟨b, hb⟩ := hb
    have e : isOfP r p = decide (b ∈ r.bs) := by simp [isOfP, hb]
    rw [e, (toBt_some hb).1]
    exact ev_is_of own k h r b ok
  have e0 : isOfP r p = false := by
    unfold isOfP
    split
    · rename_i b e; exact absurd ⟨b, e⟩ hb
    · rfl
  refine evF_pure (fd := fd_is_of) (by rfl) rfl rfl ?_ h
  rw [e0]
  cases p with
  | tuple xs =>
    cases q : (r.bs.map Bt.e).any (fun y => y.eqv (.tuple xs)) with
    | false => simp [fd_is_of, q, -List.any_map]
    | true =>
      obtain ⟨b, hb2, e | ⟨c, e⟩⟩ := any_dict q
      · exact absurd ⟨b, by rw [e]; exact toBt_e (ok.fl_of hb2).2.2⟩ hb
      · subst e
        simp [fd_is_of, q, -List.any_map, isWholeP]
  | _ => simp [fd_is_of, isP_tuple, PyData.isTuple]
theorem isOfP_bt {r : Ru} {p : PyData} (h : isOfP r p = true) : ∃ b, toBt p = some b := by
  unfold isOfP at h
  split at h
  · rename_i b e; exact ⟨b, e⟩
  · cases h
theorem ev_are_wants_any (r : Ru) (p : PyData) (ro : r.Ok) : evF (PT own) (k + 3) 12 [.dat r.e, .dat p] h = .ok (.dat (.bool (wantsP r p))) h := by
  refine evF_pure (fd := fd_are_wants) (by rfl) rfl rfl ?_ h
  cases p with
  | tuple xs =>
    simp [fd_are_wants]
    rw [compC_map (fun b : PyData => .dat b) (fun b => .bool (isOfP r b)) _ _ fun p _ => by simp [ev_is_of_any, ro]]
    cases q : xs.all (isOfP r) with
    | false => simp [q, wantsP]
    | true =>
      have e := bts_of (fun p => isOfP_bt) q
      have g1 : evF (PT own) (k + 2) 3 [.dat (.tuple xs)] [] = .ok (.dat (.bool (rising (xs.filterMap toBt)))) [] := by
        conv => lhs; rw [e]
        exact ev_are_rising own (k + 1) [] _
      have g2 : sortP [.tuple xs] = some (.list ((sortB (xs.filterMap toBt)).map Bt.e)) := by
        conv => lhs; rw [e]
        exact sortP_btT _
      by_cases he : r.pk = .eldest
      · simp [q, wantsP, g2, he]
      · simp [q, wantsP, g1, he]
  | _ => simp [fd_are_wants, isP_tuple, PyData.isTuple, wantsP]
theorem ev_state_fault_any (r : Ru) (p : PyData) (ro : r.Ok) : evF (PT own) (k + 4) 13 [.dat r.e, .dat p] h = .ok (.dat (stateFaultP r p)) h := by
  refine evF_pure (fd := fd_state_fault) (by rfl) rfl rfl ?_ h
  cases p with
  | tuple xs =>
    by_cases hl : xs.length = 4
    · obtain ⟨a, b, c, d, rfl⟩ := len4 hl
      simp [fd_state_fault, ev_are_wants_any, ro, stateFaultP, firstBad_eq]
      refine Wp.of (compC_eq (fun q : Str × Bool => .dat (.tuple [.str q.1, .bool q.2])) (fun q => !q.2) (fun q => .tuple [.str q.1]) _ [(s_floor, isWholeP a 0 (r.fl - 1)), (s_heading, isWordP b [s_up, s_down, s_none]), (s_door, isWholeP c 0 r.op), (s_wants, wantsP r d)] fun q _ => by simp) ?_
      generalize List.filter (fun q : Str × Bool => !q.2) [(s_floor, isWholeP a 0 (r.fl - 1)), (s_heading, isWordP b [s_up, s_down, s_none]), (s_door, isWholeP c 0 r.op), (s_wants, wantsP r d)] = fl
      cases fl with
      | nil => simp
      | cons q fl => simp
    · have h2 : ¬ ((xs.length : Int) = 4) := by omega
      simp [fd_state_fault, h2, stateFault_len hl]
  | _ => simp [fd_state_fault, isP_tuple, PyData.isTuple, stateFaultP]
theorem ev_is_event_any (r : Ru) (p : PyData) (ro : r.Ok) : evF (PT own) (k + 3) 19 [.dat r.e, .dat p] h = .ok (.dat (.bool (isEventP r p))) h := by
  refine evF_pure (fd := fd_is_event_of) (by rfl) rfl rfl ?_ h
  cases p with
  | tuple xs =>
    by_cases h1 : xs.length = 1
    · obtain ⟨a, rfl⟩ := len1 h1
      cases a with
      | str a =>
        have e0 : deep (.tuple [.str a]) (.tuple [.str s_step]) = true := deepL (by simp [PyData.depth, PyData.depthAll]) _
        simp [fd_is_event_of, isEventP, e0, PyData.eqvAll]
      | _ => simp [fd_is_event_of, isEventP, isP_str, PyData.isStr]
    · by_cases h2 : xs.length = 2
      · obtain ⟨a, b, rfl⟩ := len2 h2
        cases a with
        | str a =>
          by_cases hp : a = s_press
          · simp [fd_is_event_of, isEventP, ev_is_of_any, ro, hp]
          · simp [fd_is_event_of, isEventP, hp]
        | _ => simp [fd_is_event_of, isEventP, isP_str, PyData.isStr]
      · have h3 : ¬ ((xs.length : Int) = 1) := by omega
        have h4 : ¬ ((xs.length : Int) = 2) := by omega
        have h5 : ¬ ((1 : Int) = xs.length) := by omega
        have h6 : ¬ ((2 : Int) = xs.length) := by omega
        have e : isEventP r (.tuple xs) = false := by
          unfold isEventP
          split
          · rename_i e; cases e; exact absurd rfl h1
          · rename_i e; cases e; exact absurd rfl h2
          · rfl
        simp [fd_is_event_of, h3, h4, h5, h6, e]
  | _ => simp [fd_is_event_of, isP_tuple, PyData.isTuple, isEventP]
/-! ### refused -/
theorem ev_need_rule_x {p : PyData} {pl : List PyData} (e : ruleFaultP p = .tuple pl) : evF (PT own) (k + 5) 6 [.dat p] h = .ex ⟨"BadRule", .tuple pl⟩ h := by
  refine evF_pureX (fd := fd_need_rule) (by rfl) rfl rfl ?_ h
  simp [fd_need_rule, ev_rule_fault_any, e]
theorem ev_need_state_x {r : Ru} (ro : r.Ok) {p : PyData} {pl : List PyData} (e : stateFaultP r p = .tuple pl) : evF (PT own) (k + 6) 14 [.dat r.e, .dat p] h = .ex ⟨"BadState", .tuple pl⟩ h := by
  refine evF_pureX (fd := fd_need_state) (by rfl) rfl rfl ?_ h
  simp [fd_need_state, ev_state_fault_any, ro, e]
theorem ev_need_state_xr {p q : PyData} {pl : List PyData} (e : ruleFaultP p = .tuple pl) : evF (PT own) (k + 6) 14 [.dat p, .dat q] h = .ex ⟨"BadRule", .tuple pl⟩ h := by
  refine evF_pureX (fd := fd_need_state) (by rfl) rfl rfl ?_ h
  simp [fd_need_state, ev_need_rule_x own k _ e]
theorem ev_is_state_any {r : Ru} (ro : r.Ok) (p : PyData) : evF (PT own) (k + 6) 15 [.dat r.e, .dat p] h = .ok (.dat (.bool (isNone (.dat (stateFaultP r p))))) h := by
  refine evF_pure (fd := fd_is_state) (by rfl) rfl rfl ?_ h
  simp [fd_is_state, ev_state_fault_any, ro]
theorem ev_is_rule_any (p : PyData) : evF (PT own) (k + 5) 7 [.dat p] h = .ok (.dat (.bool (isNone (.dat (ruleFaultP p))))) h := by
  refine evF_pure (fd := fd_is_rule) (by rfl) rfl rfl ?_ h
  simp [fd_is_rule, ev_rule_fault_any]
theorem ev_need_button_x {r : Ru} (ro : r.Ok) {p : PyData} (e : isOfP r p = false) : evF (PT own) (k + 3) 17 [.dat r.e, .dat p] h = .ex ⟨"BadButton", p⟩ h := by
  refine evF_pureX (fd := fd_need_button) (by rfl) rfl rfl ?_ h
  simp [fd_need_button, ev_is_of_any, ro, e]
theorem ev_step_x {r : Ru} {s : Sta} (ro : r.Ok) (ok : s.Ok r) {p : PyData} (e : isEventP r p = false) : evF (PT own) (k + 7) 30 [.dat r.e, .dat s.e, .dat p] h = .ex ⟨"BadEvent", p⟩ h := by
  refine evF_pureX (fd := fd_step) (by rfl) rfl rfl ?_ h
  simp [fd_step, ev_is_event_any, ro, ok, e]
theorem ev_step_xs {r : Ru} (ro : r.Ok) {p q : PyData} {pl : List PyData} (e : stateFaultP r p = .tuple pl) : evF (PT own) (k + 7) 30 [.dat r.e, .dat p, .dat q] h = .ex ⟨"BadState", .tuple pl⟩ h := by
  refine evF_pureX (fd := fd_step) (by rfl) rfl rfl ?_ h
  simp [fd_step, ev_need_state_x own k _ ro e]
theorem ev_step_xr {p q u : PyData} {pl : List PyData} (e : ruleFaultP p = .tuple pl) : evF (PT own) (k + 7) 30 [.dat p, .dat q, .dat u] h = .ex ⟨"BadRule", .tuple pl⟩ h := by
  refine evF_pureX (fd := fd_step) (by rfl) rfl rfl ?_ h
  simp [fd_step, ev_need_state_xr own k _ e]
theorem ev_need_small_x {r : Ru} (ns : ¬ r.Small) : evF (PT own) (k + 2) 10 [.dat r.e] h = .ex ⟨"TooMany", .int 4⟩ h := by
  refine evF_pureX (fd := fd_need_small) (by rfl) rfl rfl ?_ h
  have : (decide (r.fl ≤ 4) && decide ((r.bs.length : Int) ≤ 4)) = false := by
    cases q : (decide (r.fl ≤ 4) && decide ((r.bs.length : Int) ≤ 4)) with
    | false => rfl
    | true =>
      simp only [Bool.and_eq_true, decide_eq_true_eq] at q
      exact absurd ⟨q.1, by omega⟩ ns
  simp [fd_need_small, this]
end
end L2.LC

set_option maxHeartbeats 2000000
/-! LS: where steps alone lead. -/
namespace L2.LC
open PySem
def restN (r : Ru) : Nat → Sta → Sta
  | 0, s => s
  | n + 1, s => if (stepS r s).1 = s then s else restN r n (stepS r s).1
def restS (r : Ru) (s : Sta) : Sta := restN r 701 s
theorem restN_eq {r : Ru} (ro : r.Ok) : ∀ (n m : Nat) (s : Sta), s.Ok r → muS r s < n → muS r s < m → restN r n s = restN r m s
  | 0, _, _, _, h, _ => by omega
  | _ + 1, 0, _, _, _, h => by omega
  | n + 1, m + 1, s, ok, h1, h2 => by
    simp only [restN]
    split
    · rfl
    · rename_i hc
      have := mu_step ro ok hc
      rw [restN_eq ro n m _ (step_ok ro ok) (by omega) (by omega)]
theorem rest_eq {r : Ru} {s : Sta} (ro : r.Ok) (ok : s.Ok r) : restS r s = if (stepS r s).1 = s then s else restS r (stepS r s).1 := by
  have h := mu_le ro ok
  unfold restS
  rw [restN]
  split
  · rfl
  · rename_i hc
    have := mu_step ro ok hc
    rw [restN_eq ro 700 701 _ (step_ok ro ok) (by omega) (by omega)]
theorem restN_fix {r : Ru} (ro : r.Ok) : ∀ (n : Nat) (s : Sta), s.Ok r → muS r s < n → (restN r n s).Ok r ∧ (stepS r (restN r n s)).1 = restN r n s
  | 0, _, _, h => by omega
  | n + 1, s, ok, h => by
    simp only [restN]
    split
    · rename_i hc; exact ⟨ok, hc⟩
    · rename_i hc
      have := mu_step ro ok hc
      exact restN_fix ro n _ (step_ok ro ok) (by omega)
theorem rest_fix {r : Ru} {s : Sta} (ro : r.Ok) (ok : s.Ok r) : (restS r s).Ok r ∧ (stepS r (restS r s)).1 = restS r s := by
  have := mu_le ro ok
  exact restN_fix ro 701 s ok (by omega)
/-- what rests -/
theorem fix_is {r : Ru} {s : Sta} (ro : r.Ok) (ok : s.Ok r) (h : (stepS r s).1 = s) : s.hd = .none ∧ s.door = 0 ∧ s.ws = [] ∧ (r.re = .home → s.fl = 0) := by
  have d0 := ok.d0
  have f0 := ok.f0
  by_cases hd : 0 < s.door
  · exfalso
    have e : (stepS r s).1 = closeS r s := by simp [stepS, hd]
    have : (closeS r s).door = s.door - 1 := by unfold closeS; split <;> rfl
    rw [← e, h] at this
    omega
  · by_cases hw : s.ws = []
    · by_cases hc : r.re = .home ∧ 0 < s.fl
      · exfalso
        have e : (stepS r s).1 = ⟨s.fl - 1, .down, 0, []⟩ := by simp [stepS, hd, hw, hc]
        rw [h] at e
        have := congrArg Sta.fl e
        simp only at this
        omega
      · have e : (stepS r s).1 = ⟨s.fl, .none, 0, []⟩ := by
          have : (decide (r.re = .home) && decide (0 < s.fl)) = false := by
            cases q : (decide (r.re = .home) && decide (0 < s.fl)) with
            | false => rfl
            | true => simp only [Bool.and_eq_true, decide_eq_true_eq] at q; exact absurd q hc
          simp [stepS, hd, hw, this]
        rw [h] at e
        refine ⟨congrArg Sta.hd e, by omega, hw, fun q => ?_⟩
        have : ¬ 0 < s.fl := fun z => hc ⟨q, z⟩
        omega
    · exfalso
      by_cases hs : servS r s = []
      · have e : (stepS r s).1 = ⟨s.fl + (headS r s).way, headS r s, 0, s.ws⟩ := by simp [stepS, hd, hw, hs]
        have := dist_move ro ok hw hs
        rw [← e, h] at this
        omega
      · have e : (stepS r s).1 = ⟨s.fl, headS r s, r.op, s.ws.filter fun b => !(servS r s).contains b⟩ := by simp [stepS, hd, hw, hs]
        rw [h] at e
        have hl := congrArg (fun t : Sta => t.ws.length) e
        simp only at hl
        obtain ⟨b, hb⟩ := List.exists_mem_of_ne_nil _ hs
        have hb2 := (List.mem_filter.mp hb).1
        have : (s.ws.filter fun b => !(servS r s).contains b).length < s.ws.length := List.length_filter_lt_length_iff_exists.mpr ⟨b, hb2, by simp [hb]⟩
        omega
/-- a step serves, or keeps -/
theorem step_perm {r : Ru} {s : Sta} : ((stepS r s).2.sv ++ (stepS r s).1.ws).Perm s.ws := by
  unfold stepS
  split
  · have hw : (closeS r s).ws = s.ws := by unfold closeS; split <;> rfl
    simp [hw]
  split
  · rename_i hw
    split <;> simp [hw]
  split
  · simp
  · simp only
    refine ((sortB_perm _).append_right _).trans ?_
    have e : (s.ws.filter fun b => !(servS r s).contains b) = s.ws.filter fun b => !(decide (b.f = s.fl) && freeS r s.hd (headS r s) b) := by
      refine List.filter_congr fun b hb => ?_
      congr 1
      rw [Bool.eq_iff_iff]
      simp only [List.contains_iff_mem, servS, List.mem_filter, hb, true_and]
    rw [e]
    exact List.filter_append_perm _ _
theorem jour_perm {r : Ru} (ro : r.Ok) : ∀ (n : Nat) (s : Sta), s.Ok r → muS r s < n → ((jourN r n s).flatMap (·.sv)).Perm s.ws
  | 0, _, _, h => by omega
  | n + 1, s, ok, h => by
    simp only [jourN]
    split
    · rename_i hc
      rw [(fix_is ro ok hc).2.2.1]
      exact .refl _
    · rename_i hc
      have := mu_step ro ok hc
      simp only [List.flatMap_cons]
      exact ((jour_perm ro n _ (step_ok ro ok) (by omega)).append_left _).trans step_perm
theorem served_perm {r : Ru} {s : Sta} (ro : r.Ok) (ok : s.Ok r) : ((jourS r s).flatMap (·.sv)).Perm s.ws := by
  have := mu_le ro ok
  exact jour_perm ro 701 s ok (by omega)
theorem Bt.le_antisymm {a b : Bt} (h1 : a.le b = true) (h2 : b.le a = true) : a = b := by
  rcases Bt.le_iff.mp h1 with z | z
  · rcases Bt.le_iff.mp h2 with y | y
    · have := Bt.lt_trans z y
      rw [Bt.lt_irrefl] at this
      cases this
    · exact y.symm
  · exact z
theorem sortB_eq {as bs : List Bt} (h : as.Perm bs) : sortB as = sortB bs :=
  ((sortB_perm as).trans (h.trans (sortB_perm bs).symm)).eq_of_pairwise (fun a b _ _ => Bt.le_antisymm) (sortB_sorted as) (sortB_sorted bs)
theorem sh_reprB {p : PyData} {d n : Nat} (s : Sh p d n) (h1 : d ≤ 100) (h2 : n ≤ 16000000) : reprP [p] = some (.str p.shown) := by
  have a := s.s
  have b := s.h
  have c : p.depth ≤ 100 := Nat.le_trans s.d h1
  have e : p.shown.length ≤ sizeLine := Nat.le_trans s.n (Nat.le_trans h2 (by decide))
  simp [reprP, a, b, c, e]
theorem sh_num (n : Nat) (h : n ≤ 700) : reprP [.int n] = some (.str (PyData.int n).shown) := by
  have : Sh (.int n) 0 3 := by
    refine ⟨?_, rfl, by simp [PyData.depth], ?_⟩
    · simp only [PyData.showable, decide_eq_true_eq, Int.natAbs_natCast]
      have : n.log2 ≤ n := Nat.log2_le_self n
      omega
    · simp only [PyData.shown]
      rw [len_str]
      have : ∀ n : Fin 701, (toString ((n.val : Nat) : Int)).length ≤ 3 := by decide +kernel
      exact this ⟨n, by omega⟩
  exact this.repr (by omega) (by omega)
theorem jour_tl {r : Ru} (ro : r.Ok) : ∀ (n : Nat) (s : Sta), s.Ok r → ∀ t ∈ jourN r n s, t.Ok r
  | 0, _, _, t, h => by simp [jourN] at h
  | n + 1, s, ok, t, h => by
    simp only [jourN] at h
    split at h
    · cases h
    · rcases List.mem_cons.mp h with rfl | h
      · exact tl_ok (e := .step) ro ok trivial
      · exact jour_tl ro n _ (step_ok ro ok) t h
theorem sh_jour {r : Ru} {s : Sta} (ro : r.Ok) (ok : s.Ok r) : reprP [.tuple ((jourS r s).map Tl.e)] = some (.str (PyData.tuple ((jourS r s).map Tl.e)).shown) := by
  have hl := Nat.le_trans (jour_len ro 701 s ok) (mu_le ro ok)
  have := Sh.tuple (xs := (jourS r s).map Tl.e) (d := 3) (n := 300) fun x hx => by
    obtain ⟨t, ht, rfl⟩ := List.mem_map.mp hx
    exact sh_tl ro (jour_tl ro 701 s ok t ht)
  refine this.repr (by omega) ?_
  simp only [List.length_map]
  have : (jourS r s).length ≤ 700 := hl
  omega
section
variable (own : List FD) (k : Nat) (h : Hs)
@[simp] theorem ev_journey (r : Ru) (s : Sta) (ro : r.Ok) (ok : s.Ok r) : evF (PT own) (k + 7) 41 [.dat r.e, .dat s.e] h = .ok (.dat (.tuple ((jourS r s).map Tl.e))) h := by
  refine evF_pure (fd := fd_journey) (by rfl) rfl rfl ?_ h
  simp [fd_journey, ro, ok]
@[simp] theorem ev_steps_left (r : Ru) (s : Sta) (ro : r.Ok) (ok : s.Ok r) : evF (PT own) (k + 7) 42 [.dat r.e, .dat s.e] h = .ok (dI (jourS r s).length) h := by
  refine evF_pure (fd := fd_steps_left) (by rfl) rfl rfl ?_ h
  simp [fd_steps_left, ro, ok]
@[simp] theorem ev_rests (r : Ru) (s : Sta) (ro : r.Ok) (ok : s.Ok r) : evF (PT own) (k + 7) 40 [.dat r.e, .dat s.e] h = .ok (dB (decide ((stepS r s).1 = s))) h := by
  refine evF_pure (fd := fd_rests) (by rfl) rfl rfl ?_ h
  have l0 : s.ws.length ≤ 1000 := by have := ok.len ro; omega
  simp [fd_rests, ro, ok, l0]
theorem ev_journey_x {r : Ru} (ro : r.Ok) {p : PyData} {pl : List PyData} (e : stateFaultP r p = .tuple pl) : evF (PT own) (k + 7) 41 [.dat r.e, .dat p] h = .ex ⟨"BadState", .tuple pl⟩ h := by
  refine evF_pureX (fd := fd_journey) (by rfl) rfl rfl ?_ h
  simp [fd_journey, ev_need_state_x own k _ ro e]
theorem ev_steps_left_x {r : Ru} (ro : r.Ok) {p : PyData} {pl : List PyData} (e : stateFaultP r p = .tuple pl) : evF (PT own) (k + 7) 42 [.dat r.e, .dat p] h = .ex ⟨"BadState", .tuple pl⟩ h := by
  refine evF_pureX (fd := fd_steps_left) (by rfl) rfl rfl ?_ h
  simp [fd_steps_left, ev_need_state_x own k _ ro e]
theorem ev_rests_x {r : Ru} (ro : r.Ok) {p : PyData} {pl : List PyData} (e : stateFaultP r p = .tuple pl) : evF (PT own) (k + 7) 40 [.dat r.e, .dat p] h = .ex ⟨"BadState", .tuple pl⟩ h := by
  refine evF_pureX (fd := fd_rests) (by rfl) rfl rfl ?_ h
  simp [fd_rests, ev_need_state_x own k _ ro e]
theorem ev_longest_xr {p : PyData} {pl : List PyData} (e : ruleFaultP p = .tuple pl) : evF (PT own) (k + 6) 43 [.dat p] h = .ex ⟨"BadRule", .tuple pl⟩ h := by
  refine evF_pureX (fd := fd_longest) (by rfl) rfl rfl ?_ h
  simp [fd_longest, ev_need_rule_x own k _ e]
theorem ev_longest_xm {r : Ru} (ro : r.Ok) (ns : ¬ r.Small) : evF (PT own) (k + 6) 43 [.dat r.e] h = .ex ⟨"TooMany", .int 4⟩ h := by
  refine evF_pureX (fd := fd_longest) (by rfl) rfl rfl ?_ h
  simp [fd_longest, ro, ev_need_small_x own _ _ ns]
theorem ev_reached_xr {p : PyData} {pl : List PyData} (e : ruleFaultP p = .tuple pl) : evF (PT own) (k + 6) 48 [.dat p] h = .ex ⟨"BadRule", .tuple pl⟩ h := by
  refine evF_pureX (fd := fd_reached) (by rfl) rfl rfl ?_ h
  simp [fd_reached, ev_need_rule_x own k _ e]
theorem ev_reached_xm {r : Ru} (ro : r.Ok) (ns : ¬ r.Small) : evF (PT own) (k + 6) 48 [.dat r.e] h = .ex ⟨"TooMany", .int 4⟩ h := by
  refine evF_pureX (fd := fd_reached) (by rfl) rfl rfl ?_ h
  simp [fd_reached, ro, ev_need_small_x own _ _ ns]
theorem ev_events_of_xr {p : PyData} {pl : List PyData} (e : ruleFaultP p = .tuple pl) : evF (PT own) (k + 6) 45 [.dat p] h = .ex ⟨"BadRule", .tuple pl⟩ h := by
  refine evF_pureX (fd := fd_events_of) (by rfl) rfl rfl ?_ h
  simp [fd_events_of, ev_need_rule_x own k _ e]
end
end L2.LC

namespace L2.LC.liftcalls_k11_whole_journeys
open PySem PySem.Spec PyProof.Rows
/-! k11 -/
def WInv (r : Ru) (s : Sta) (n : Nat) (ρ : En) (st : Hs) : Prop := ∃ s2 fnd, s2.Ok r ∧ n = muS r s2 ∧ fnd.length + muS r s2 ≤ 700 ∧ jourS r s = fnd ++ jourS r s2 ∧ restS r s = restS r s2 ∧ ρ = [some (.dat r.e), some (.dat s2.e), some (.ref 0), some (.dat (stepS r s2).1.e), some (.dat (stepS r s2).2.e)] ∧ st = [.lst (fnd.map fun t : Tl => .dat t.e)]
theorem ev_way (k : Nat) (h : Hs) (r : Ru) (s : Sta) (ro : r.Ok) (ok : s.Ok r) : evF (PT own) (k + 3) 130 [.dat r.e, .dat s.e] h = .ok (.dat (.tuple [.tuple ((jourS r s).map Tl.e), (restS r s).e])) h := by
  refine evF_pure (fd := fd_law_way) (by rfl) rfl rfl ?_ h
  have l0 : s.ws.length ≤ 1000 := by have := ok.len ro; omega
  simp [fd_law_way, l0]
  refine whlC_wp (WInv r s) ?_ turns (muS r s) (by have : turns = 2 ^ 64 := rfl; have := mu_le ro ok; omega) _ _ ⟨s, [], ok, rfl, by have := mu_le ro ok; simp; omega, by simp, rfl, rfl, rfl⟩
  rintro n ρ st ⟨s2, fnd, ok2, rfl, hl, hj, hr, rfl, rfl⟩
  have l1 : (stepS r s2).1.ws.length ≤ 1000 := by have := (step_ok ro ok2).len ro; omega
  by_cases hc : (stepS r s2).1 = s2
  · have e := jour_eq ro ok2
    rw [if_pos hc] at e
    rw [e] at hj
    have e2 := rest_eq ro ok2
    rw [if_pos hc] at e2
    rw [e2] at hr
    simp [hc, hj, hr]
  · have e := jour_eq ro ok2
    rw [if_neg hc] at e
    have e2 := rest_eq ro ok2
    rw [if_neg hc] at e2
    have hm := mu_step ro ok2 hc
    have hz : fnd.length < sizeLine := lt_line _ (by omega)
    simp [hc, appAt, hz, l1]
    exact ⟨by omega, muS r (stepS r s2).1, hm, (stepS r s2).1, fnd ++ [(stepS r s2).2], step_ok ro ok2, rfl, by simp; omega, by rw [hj, e]; simp, by rw [hr, e2], rfl, by simp⟩
/-- one state -/
def InnerI (ns : List Int) (r : Ru) (F : Nat) (rest : List Nat) (ρ : En) (st : Hs) : Prop := ∃ o2 ext a2 a4 a5 a6 a7 a8 a9 a10 a11, ρ = [some (.scr ns), some (.ref 0), a2, some (.dat r.e), a4, a5, a6, a7, a8, a9, a10, a11] ∧ (rest.length = 5 ∨ ∃ s : Sta, s.Ok r ∧ a5 = some (.dat s.e)) ∧ st = o2 :: ext ∧ MSt (F + 100 * rest.length) o2
theorem law_ev (k : Nat) (ns : List Int) (hn : ns.length ≤ 63) : Wp (evF (PT own) (k + 20) 131 [.scr ns] []) fun d _ => d = dB true := by
  refine evF_wp (fd := fd_law) (by rfl) rfl rfl ?_
  simp [fd_law]
  refine wp_begun hn fun o m => ?_
  have hmin : ∃ c : Nat, c ≤ 20 ∧ (5 + (if (ns.length : Int) < 8 then (ns.length : Int) else 8)) = c := by
    by_cases q : ns.length < 8
    · exact ⟨5 + ns.length, by omega, by rw [if_pos (by omega)]; omega⟩
    · exact ⟨13, by omega, by rw [if_neg (by omega)]; omega⟩
  obtain ⟨c, hc, ec⟩ := hmin
  have rc : rngOk c = true := by simp [rngOk]; omega
  simp [ec, rc, rngL]
  refine forC_wp (fun k : Nat => dI k) (fun rest ρ st => ∃ o2 ext a2 a3 a4 a5 a6 a7 a8 a9 a10 a11, ρ = [some (.scr ns), some (.ref 0), a2, a3, a4, a5, a6, a7, a8, a9, a10, a11] ∧ st = o2 :: ext ∧ MSt (2 ^ 40 + 1000 * rest.length) o2) ?_ ?_ (List.range c) _ _ ⟨o, [], none, none, none, none, none, none, none, none, none, none, rfl, rfl, m.less (by simp; omega)⟩
  · rintro x rest ρ st ⟨o2, ext, a2, a3, a4, a5, a6, a7, a8, a9, a10, a11, rfl, rfl, m2⟩
    simp only [List.length_cons] at m2
    obtain ⟨F, hF⟩ : ∃ F, F = 2 ^ 40 + 1000 * rest.length := ⟨_, rfl⟩
    replace m2 : MSt (F + 1000) o2 := m2.less (by omega)
    simp
    refine wp_rule (F := F + 900) (N := 6) (most := 6) (m2.less (by omega)) (by omega) (by omega) (by omega) (by omega) fun r o3 e3 ro rf rb m3 => ?_
    generalize ext ++ e3 = hs3
    have r5 : rngOk 5 = true := rfl
    simp [r5, rngL]
    refine forC_wp (fun k : Nat => dI k) (InnerI ns r F) ?_ ?_ (List.range 5) _ _ ⟨o3, hs3, _, _, _, _, _, _, _, _, _, rfl, .inl rfl, rfl, m3.less (by simp)⟩
    · rintro y rest2 ρ st ⟨o4, ext4, b2, b4, b5, b6, b7, b8, b9, b10, b11, rfl, _, rfl, m4⟩
      simp only [List.length_cons] at m4
      simp
      refine wp_state (F := F + 100 * rest2.length + 50) (m4.less (by omega)) ro fun s o5 e5 ok m5 => ?_
      generalize ext4 ++ e5 = hs5
      have l0 : s.ws.length ≤ 1000 := by have := ok.len ro; omega
      obtain ⟨ok2, hfix⟩ := rest_fix ro ok
      have hw : ∀ h, evF (PT own) (k + 19) 130 [.dat r.e, .dat s.e] h = .ok (.dat (.tuple [.tuple ((jourS r s).map Tl.e), (restS r s).e])) h := fun h => ev_way (k + 16) h r s ro ok
      have g1 := sh_jour ro ok
      have g2 := sh_num (jourS r s).length (Nat.le_trans (jour_len ro 701 s ok) (mu_le ro ok))
      have g3 : ∀ b, reprP [.bool b] = some (.str (PyData.bool b).shown) := fun b => (sh_bool b).repr (by omega) (by omega)
      have hemp : decide ((stepS r s).1 = s) = (jourS r s).isEmpty := by
        rw [jour_eq ro ok]
        split <;> simp_all
      obtain ⟨f1, f2, f3, f4⟩ := fix_is ro ok2 hfix
      have sp := served_perm ro ok
      have sl : ((jourS r s).flatMap (·.sv)).length ≤ 6 := by rw [sp.length_eq]; exact ok.len ro
      simp [hw, ro, ok, ok2, hfix, g1, g2, g3, hemp]
      refine forC_wp (fun t : Tl => .dat t.e) (fun rest ρ st => ∃ dn a9 a10, dn ++ rest = jourS r s ∧ ρ = [some (.scr ns), some (.ref 0), b2, some (.dat r.e), some (dI y), some (.dat s.e), some (.dat (.tuple ((jourS r s).map Tl.e))), some (.dat (restS r s).e), some (dL ((dn.flatMap (·.sv)).map Bt.e)), a9, a10, b11] ∧ st = o5 :: hs5) ?_ ?_ (jourS r s) _ _ ⟨[], _, _, by simp, rfl, rfl⟩
      · rintro t rest3 ρ st ⟨dn, a9, a10, e, rfl, rfl⟩
        have hz : (dn.flatMap (·.sv)).length + t.sv.length ≤ sizeLine := le_line _ (by
          rw [← e] at sl
          simp only [List.flatMap_append, List.flatMap_cons, List.length_append] at sl
          omega)
        simp only [List.length_flatMap] at hz
        simp [hz]
        exact ⟨dn ++ [t], by simp [e], by simp⟩
      · rintro ρ st ⟨dn, a9, a10, e, rfl, rfl⟩
        simp at e
        subst e
        have es := sortB_eq sp
        have er : (restS r s).e = .tuple [.int (restS r s).fl, .str s_none, .int 0, .tuple []] := by simp [Sta.e, f1, f2, f3, Wd.s]
        have e0 : PyData.tuple [.str s_step] = Evn.step.e := rfl
        have d3 : ∀ q, deep (.tuple [.str s_none, .int 0, .tuple []]) q = true := fun q => deepL (by simp [PyData.depth, PyData.depthAll]) q
        have hh : (decide (r.re = .home) && !decide ((restS r s).fl = 0)) = false := by
          by_cases q : r.re = .home
          · simp [f4 q]
          · simp [q]
        have fin : InnerI ns r F rest2 [some (.scr ns), some (.ref 0), b2, some (.dat r.e), some (dI y), some (.dat s.e), some (.dat (.tuple ((jourS r s).map Tl.e))), some (.dat (restS r s).e), some (dL (((jourS r s).flatMap (·.sv)).map Bt.e)), a9, a10, b11] (o5 :: hs5) := ⟨o5, hs5, _, _, _, _, _, _, _, _, _, rfl, .inr ⟨s, ok, rfl⟩, rfl, m5.less (by omega)⟩
        generalize List.flatMap (fun x : Tl => x.sv) (jourS r s) = fs at sp sl es fin ⊢
        rw [er] at fin ⊢
        by_cases hc : (stepS r s).1 = s
        · have ej := jour_eq ro ok
          rw [if_pos hc] at ej
          rw [ej] at fin ⊢
          by_cases q : r.re = .home
          · simp [es, d3, PyData.eqvAll, q, f4 q]
            simpa [f4 q] using fin
          · simp [es, d3, PyData.eqvAll, q]
            simpa using fin
        · have ej := jour_eq ro ok
          rw [if_neg hc] at ej
          have jl : (jourS r (stepS r s).1).length ≤ 1000 := Nat.le_trans (jour_len ro 701 _ (step_ok ro ok)) (Nat.le_trans (mu_le ro (step_ok ro ok)) (by omega))
          have dj : ∀ q, deep (.tuple ((jourS r (stepS r s).1).map Tl.e)) q = true := fun q => deepL (by
            have : PyData.depthAll ((jourS r (stepS r s).1).map Tl.e) ≤ 3 := depthAll_le fun x hx => by
              obtain ⟨t, _, rfl⟩ := List.mem_map.mp hx
              exact Tl.dep t
            simp only [PyData.depth]; omega) q
          have et : ∀ l : List Tl, PyData.eqvAll (l.map Tl.e) (l.map Tl.e) = true := fun l => by rw [eqvAll_map Tl.e Tl.eqv]; simp
          have hst : ∀ h, evF (PT own) (k + 19) 30 [.dat r.e, .dat s.e, .dat Evn.step.e] h = .ok (.dat (stE (stepS r s))) h := fun h => ev_step own (k + 12) h r s .step ro ok trivial
          rw [ej] at fin ⊢
          by_cases q : r.re = .home
          · simp [es, d3, PyData.eqvAll, q, f4 q, e0, hst, ro, ok, step_ok ro ok, dj, et]
            simpa [f4 q] using fin
          · simp [es, d3, PyData.eqvAll, q, e0, hst, ro, ok, step_ok ro ok, dj, et]
            simpa using fin
    · rintro ρ st ⟨o4, ext4, b2, b4, b5, b6, b7, b8, b9, b10, b11, rfl, hs, rfl, m4⟩
      obtain h5 | ⟨s, ok, rfl⟩ := hs
      · simp at h5
      have o3 := ro.o3
      have o1 := ro.o1
      have f2' := ro.f2
      have x1 : ∀ h, evF (PT own) (k + 19) 41 [.dat r.e, dN] h = .ex ⟨"BadState", .tuple []⟩ h := fun h => ev_journey_x own (k + 12) h ro rfl
      have x2 : ∀ h, evF (PT own) (k + 19) 40 [.dat r.e, .dat (.tuple [.int s.fl, .str s.hd.s, .int s.door])] h = .ex ⟨"BadState", .tuple []⟩ h := fun h => ev_rests_x own (k + 12) h ro rfl
      have x3 : ∀ h, evF (PT own) (k + 19) 42 [.dat r.e, .dat (.tuple [.int 0, .str s_none, .int 9, .tuple []])] h = .ex ⟨"BadState", .tuple [.str s_door]⟩ h := fun h => ev_steps_left_x own (k + 12) h ro (by
        have a1 : isWholeP (.int 0) 0 (r.fl - 1) = true := by simp [isWholeP]; omega
        have a2 : isWordP (.str s_none) [s_up, s_down, s_none] = true := by decide
        have a3 : isWholeP (.int 9) 0 r.op = false := by simp [isWholeP]; omega
        simp [stateFaultP, firstBad, a1, a2, a3])
      have x4 : ∀ h, evF (PT own) (k + 19) 43 [.dat (.tuple [])] h = .ex ⟨"BadRule", .tuple []⟩ h := fun h => ev_longest_xr own (k + 13) h rfl
      have dd : ∀ q, deep (.list [.tuple [.str s_state, .tuple []], .tuple [.str s_state, .tuple []], .tuple [.str s_state, .tuple [.str s_door]], .tuple [.str s_rule, .tuple []]]) q = true := fun q => deepL (by simp [PyData.depth, PyData.depthAll]) q
      simp [x1, x2, x3, x4, dd, PyData.eqvAll]
      have := MSt.less (F := F) (F' := 2 ^ 40 + 1000 * rest.length) (by simpa using m4) (by omega)
      simpa using this
  · rintro ρ st ⟨o2, ext, a2, a3, a4, a5, a6, a7, a8, a9, a10, a11, rfl, rfl, m2⟩
    simp
theorem law_true : ∀ ns : List Int, ns.length ≤ 63 → ∃ S', evF G.fns 40 131 [.scr ns] [] = .ok (dB true) S' := fun ns hn => by
  obtain ⟨d, s, e, q⟩ := (law_ev 20 ns hn).get
  exact ⟨s, by rw [← q]; exact e⟩

end L2.LC.liftcalls_k11_whole_journeys
open PySem PySem.W PySem.Calls PyProof.Rows
theorem PySem.Challenge.cw_liftcalls_k11_whole_journeys_holds : PySem.Challenge.rw_liftcalls_k11_whole_journeys.Holds := by
  w_on; o_law
  refine HandSHeadRun.head_any (r := OpenLaw.row PySem.Challenge.rw_liftcalls_k11_whole_journeys) (q := view (OpenLaw.row PySem.Challenge.rw_liftcalls_k11_whole_journeys).prog [88]) (H := L2.LC.liftcalls_k11_whole_journeys.hk) (ob := L2.LC.liftcalls_k11_whole_journeys.ob) (M := 30000) (loose := L2.LC.liftcalls_k11_whole_journeys.loose) (d := HandSHeadRun.topDef (OpenLaw.row PySem.Challenge.rw_liftcalls_k11_whole_journeys).prog 88) (kwd := []) L2.LC.liftcalls_k11_whole_journeys.ob_eq
    (by kernel_rfl) (fun s => by kernel_rfl) L2.LC.liftcalls_k11_whole_journeys.run (by kernel_rfl) (by kernel_rfl) (by kernel_rfl) (by rfl) (by first | assumption | decide +kernel) (by decide +kernel) ⟨rfl, rfl, rfl, rfl, rfl, by decide +kernel⟩ ?hw ?hc
  case hw => w_witness2
  case hc =>
    refine L2.LC.walk_G (l := PySem.Challenge.rw_liftcalls_k11_whole_journeys) (n := 63) (k := 3 * 40 + 2) (x := "_law_script") rfl (by decide) (by kernel_rfl) ⟨rfl, by decide, by decide⟩ ?F
    intro w mg fa h Y G hmg0
    obtain ⟨K, KX, c⟩ := Y
    have hmg : mg ("law" : PySem.Str) = some (.ref fa) := by
      have e : (HandSHeadRun.topDef (OpenLaw.row PySem.Challenge.rw_liftcalls_k11_whole_journeys).prog 88).name = ("law" : PySem.Str) := by kernel_rfl
      rw [← e]
      exact hmg0
    exact L2.LC.law_fin (prog := (PySem.Challenge.rw_liftcalls_k11_whole_journeys).prog) (G := L2.LC.liftcalls_k11_whole_journeys.G) (defs := L2.LC.liftcalls_k11_whole_journeys.defs) (f := 131) (x := L2.LC.liftcalls_k11_whole_journeys.di_law) (p := "_law_script") rfl L2.LC.liftcalls_k11_whole_journeys.oks L2.LC.liftcalls_k11_whole_journeys.ioks (by decide +kernel) (by decide +kernel) rfl KX G c L2.LC.liftcalls_k11_whole_journeys.law_in rfl rfl hmg (by decide) L2.LC.liftcalls_k11_whole_journeys.law_true

