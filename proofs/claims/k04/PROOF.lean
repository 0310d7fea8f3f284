import PyProof.Rows.All
import Wide.All
import OpenK.AllK
import Wide.FinOn
import HandS.ForMost
import KE.SortData
import KE.DataMinMax
import HandS.Wide
import HandS.Flow
import HandS.Style
import HandS.TupAny
import HandS.Walk
import HandS.Zip
import HandS.IsInst
import HandS.SortInts
import HandS.Conv
import HandS.ExcCtx
import HandS.Lambda
import HandS.WideBits
import HandS.Deep
import HandS.SetFor
import PyProof.SumWalkG
import PyProof.WalksMore
import PyProof.Rows.SetFrom
import HandS.Strs
import PyProof.Draws
import PyProof.EnumMake
import KE.GoesMore
import HandS.Iter
import KE.GoesZip
import KE.GoesEnum
import HandS.More
import HandS.SortOrd
import KE.SortKeyHeap
import HandS.SortKw
import HandS.EndTab
import PySem.Challenge.RW_roundrope_k04_whole_however_far
set_option Elab.async false
set_option linter.all false
set_option maxRecDepth 100000
set_option maxRecDepth 100000
/-! VI1: a small language of our own: values, a store of objects that change, what a text of it does. -/
namespace VI
open PySem L2

/-- a value: lists and tuples that change no more stand by what they hold; loc: an object of the store -/
inductive AV where
  | non | bl (b : Bool) | int (i : Int) | str (x : Str) | ty (n : String)
  | tup (l : List AV) | lst (l : List AV) | loc (n : Nat) | scr (l : List Int) | ktp (l : List AV) | ftp (l : List AV)

mutual
/-- names no object of the store -/
def AV.noLoc : AV → Bool
  | .tup l => noLocs l
  | .lst l => noLocs l
  | .ktp l => noLocs l
  | .ftp l => noLocs l
  | .loc _ => false
  | _ => true
def noLocs : List AV → Bool
  | [] => true
  | a :: l => a.noLoc && noLocs l
end
mutual
/-- names objects below n alone -/
def AV.und (n : Nat) : AV → Bool
  | .tup l => unds n l
  | .lst l => unds n l
  | .ktp l => unds n l
  | .ftp l => unds n l
  | .loc i => decide (i < n)
  | _ => true
def unds (n : Nat) : List AV → Bool
  | [] => true
  | a :: l => a.und n && unds n l
end
mutual
def AV.toPy : AV → PyData
  | .non => .none
  | .bl b => .bool b
  | .int i => .int i
  | .str x => .str x
  | .tup l => .tuple (toPys l)
  | .lst l => .list (toPys l)
  | _ => .none
def toPys : List AV → List PyData
  | [] => []
  | a :: l => a.toPy :: toPys l
end
/-- data of depth at most k, of Nones, truths, ints, texts, tuples and lists -/
def dep : Nat → AV → Bool
  | _, .non => true
  | _, .bl _ => true
  | _, .int _ => true
  | _, .str x => PySem.PyData.strOk x
  | k + 1, .tup l => l.all (dep k)
  | k + 1, .lst l => l.all (dep k)
  | _, _ => false
mutual
/-- python's == of such data -/
def eqv : AV → AV → Bool
  | .non, b => match b with
    | .non => true
    | _ => false
  | .bl a, b => match b with
    | .bl c => a == c
    | .int j => (if a then 1 else 0) == j
    | _ => false
  | .int i, b => match b with
    | .bl c => i == (if c then 1 else 0)
    | .int j => i == j
    | _ => false
  | .str x, b => match b with
    | .str y => x == y
    | _ => false
  | .tup l, b => match b with
    | .tup m => eqvs l m
    | _ => false
  | .lst l, b => match b with
    | .lst m => eqvs l m
    | _ => false
  | _, _ => false
def eqvs : List AV → List AV → Bool
  | [], m => match m with
    | [] => true
    | _ => false
  | a :: l, m => match m with
    | b :: m => eqv a b && eqvs l m
    | [] => false
end

inductive AObj where
  | lst (l : List AV)
  | dct (lk : Bool) (l : List (Key × AV))
  | dcT (lk : Bool) (l : List (List Key × AV))
  | ins (c : Str) (f : List (Str × AV))
  | tab (x : Str)
def AObj.noLoc : AObj → Bool
  | .lst l => noLocs l
  | .dct _ l => noLocs (l.map (·.2))
  | .dcT _ l => noLocs (l.map (·.2))
  | .ins _ f => noLocs (f.map (·.2))
  | .tab _ => true
/-- a dict that is walked -/
def AObj.lkO : AObj → Bool
  | .dct b _ => b
  | .dcT b _ => b
  | _ => false
abbrev Store := List AObj
abbrev Ev := List (Option AV)

/-- how a piece ends: with a value, by an error, or not told -/
inductive Out (α : Type) where
  | ok (a : α) (S : Store)
  | ex (c : AV) (S : Store)
  | no
def Out.bd {α β : Type} (x : Out α) (f : α → Store → Out β) : Out β := match x with
  | .ok a S => f a S
  | .ex c S => .ex c S
  | .no => .no
@[simp] theorem bd_ok {α β : Type} (a : α) (S : Store) (f : α → Store → Out β) : (Out.ok a S).bd f = f a S := rfl
@[simp] theorem bd_ex {α β : Type} (c : AV) (S : Store) (f : α → Store → Out β) : (Out.ex c S : Out α).bd f = .ex c S := rfl
@[simp] theorem bd_no {α β : Type} (f : α → Store → Out β) : (Out.no : Out α).bd f = .no := rfl
theorem Out.bd_eq {α β : Type} {x : Out α} {f : α → Store → Out β} {b : β} {S' : Store} (h : x.bd f = .ok b S') : ∃ a S, x = .ok a S ∧ f a S = .ok b S' := by
  cases x with
  | ok a S => exact ⟨a, S, rfl, h⟩
  | ex c S => cases h
  | no => cases h

abbrev Fn := List AV → Store → Out AV

/-- a new list: of the store, or one that changes no more -/
def mkL (m : Bool) (l : List AV) (S : Store) : Out AV := if m then .ok (.loc S.length) (S ++ [.lst l]) else .ok (.lst l) S
@[simp] theorem mkL_f (l : List AV) (S : Store) : mkL false l S = .ok (.lst l) S := rfl
@[simp] theorem mkL_t (l : List AV) (S : Store) : mkL true l S = .ok (.loc S.length) (S ++ [.lst l]) := rfl

/-- the objects at n and above written out -/
def frz : Nat → Nat → Store → AV → Option AV
  | 0, _, _, a => if a.noLoc then some a else none
  | k + 1, n, S, a => if a.noLoc then some a else match a with
    | .tup l => (l.mapM (frz k n S)).map .tup
    | .lst l => (l.mapM (frz k n S)).map .lst
    | .loc i => if i < n then some (.loc i) else match S[i]? with
      | some (.lst l) => (l.mapM (frz k n S)).map .lst
      | _ => none
    | .ktp _ => none
    | .ftp _ => none
    | a => some a
theorem frz_of {k n : Nat} {S : Store} {a : AV} (h : a.noLoc = true) : frz k n S a = some a := by
  cases k <;> simp [frz, h]

/-- what is a list's or a tuple's items -/
def itemsOf (S : Store) : AV → Option (List AV)
  | .tup l => some l
  | .lst l => some l
  | .scr l => some (l.map .int)
  | .ktp l => some l
  | .ftp l => some l
  | .loc i => match S[i]? with
    | some (.lst l) => some l
    | _ => none
  | _ => none
def lstOf (S : Store) : AV → Option (List AV)
  | .lst l => some l
  | .loc i => match S[i]? with
    | some (.lst l) => some l
    | _ => none
  | _ => none

def optD {α β : Type} (o : Option α) (f : α → Out β) : Out β := match o with
  | some a => f a
  | none => .no
@[simp] theorem optD_some {α β : Type} (a : α) (f : α → Out β) : optD (some a) f = f a := rfl
@[simp] theorem optD_none {α β : Type} (f : α → Out β) : optD none f = .no := rfl
inductive BOp | add | sub | mul | fdiv | mod | pow | shl | shr | band
  deriving DecidableEq
inductive COp | eq | ne | lt | le | gt | ge | is | isn | isin | nin
  deriving DecidableEq

/-- ints whose products and quotients the model tells of -/
def Fit (i : Int) : Prop := i.natAbs < 2 ^ 8000
instance (i : Int) : Decidable (Fit i) := inferInstanceAs (Decidable (_ < _))

def binD (m : Bool) : BOp → AV → AV → Store → Out AV
  | .add, .int i, .int j, S => .ok (.int (i + j)) S
  | .sub, .int i, .int j, S => .ok (.int (i - j)) S
  | .mul, .int i, .int j, S => if Fit i ∧ Fit j then .ok (.int (i * j)) S else .no
  | .fdiv, .int i, .int j, S => if 0 < j ∧ Fit j then .ok (.int (i / j)) S else .no
  | .mod, .int i, .int j, S => if 0 < j then .ok (.int (i % j)) S else .no
  | .shl, .int i, .int j, S => if 0 ≤ j ∧ j ≤ 1000 ∧ i.natAbs ≤ 1000 then .ok (.int (i * 2 ^ j.toNat)) S else .no
  | .shr, .int i, .int j, S => if 0 ≤ j then .ok (.int (i / 2 ^ j.toNat)) S else .no
  | .band, .int i, .int j, S => if 0 ≤ i ∧ j = 1 then .ok (.int (i % 2)) S else .no
  | .pow, .int i, .int j, S => if 0 ≤ j ∧ j ≤ 1000 ∧ i.natAbs ≤ 1000 then .ok (.int (i ^ j.toNat)) S else .no
  | .add, .str x, .str y, S => if x.length + y.length ≤ sizeLine then .ok (.str (x ++ y)) S else .no
  | .add, .tup l, .tup k, S => if l.length + k.length ≤ sizeLine then .ok (.tup (l ++ k)) S else .no
  | .add, .lst l, b, S => optD (lstOf S b) fun k => if l.length + k.length ≤ sizeLine then mkL m (l ++ k) S else .no
  | .add, .loc i, b, S => optD (lstOf S (.loc i)) fun l => optD (lstOf S b) fun k => if l.length + k.length ≤ sizeLine then mkL m (l ++ k) S else .no
  | .mul, .lst l, .int k, S => if 0 ≤ k ∧ k ≤ 10000000 ∧ l.length * k.toNat ≤ sizeLine then mkL m (List.replicate k.toNat l).flatten S else .no
  | _, _, _, _ => .no

/-- plain things: what «in» compares by value -/
def flatA : AV → Bool
  | .non => true
  | .bl _ => true
  | .int _ => true
  | .str _ => true
  | _ => false
def hasKey {κ : Type} [DecidableEq κ] (k : κ) (l : List (κ × AV)) : Bool := l.any fun p => decide (p.1 = k)
def lookK {κ : Type} [DecidableEq κ] (k : κ) (l : List (κ × AV)) : Option AV := (l.find? fun p => decide (p.1 = k)).map (·.2)
def putA {κ : Type} [DecidableEq κ] (k : κ) (a : AV) (l : List (κ × AV)) : List (κ × AV) :=
  if (l.any fun p => decide (p.1 = k)) = true then l.map (fun p => if p.1 = k then (p.1, a) else p) else l ++ [(k, a)]
def dropA {κ : Type} [DecidableEq κ] (k : κ) (l : List (κ × AV)) : List (κ × AV) := l.filter fun p => decide (p.1 ≠ k)
def keyOf : AV → Option Key
  | .int i => some (.inl i)
  | .str x => some (.inr x)
  | _ => none
def keyAV : Key → AV
  | .inl i => .int i
  | .inr x => .str x
def keysOf : AV → Option (List Key)
  | .tup l => l.mapM keyOf
  | _ => none

def eqD (S : Store) (a b : AV) : Option Bool := match frz 4 0 S a with
  | some a => match frz 4 0 S b with
    | some b => if dep 8 a = true ∧ dep 8 b = true then some (eqv a b) else none
    | none => none
  | none => none
def inD (S : Store) (a b : AV) : Option Bool := match b with
  | .loc i => match S[i]? with
    | some (.lst l) => if flatA a = true ∧ l.all flatA = true then some (l.any (eqv a)) else none
    | some (.dct _ l) => match keyOf a with
      | some k => some (hasKey k l)
      | none => none
    | some (.dcT _ l) => match keysOf a with
      | some k => some (hasKey k l)
      | none => none
    | _ => none
  | .lst l => if flatA a = true ∧ l.all flatA = true then some (l.any (eqv a)) else none
  | .tup l => if flatA a = true ∧ l.all flatA = true then some (l.any (eqv a)) else none
  | .ktp l => if flatA a = true ∧ l.all flatA = true then some (l.any (eqv a)) else none
  | .ftp l => if flatA a = true ∧ l.all flatA = true then some (l.any (eqv a)) else none
  | _ => none
def cmpD : COp → AV → AV → Store → Option Bool
  | .eq, a, b, S => eqD S a b
  | .ne, a, b, S => (eqD S a b).map (!·)
  | .lt, .int i, .int j, _ => some (decide (i < j))
  | .le, .int i, .int j, _ => some (decide (i ≤ j))
  | .gt, .int i, .int j, _ => some (decide (j < i))
  | .ge, .int i, .int j, _ => some (decide (j ≤ i))
  | .is, a, .non, _ => match a with
    | .non => some true
    | _ => some false
  | .isn, a, .non, _ => match a with
    | .non => some false
    | _ => some true
  | .is, .bl i, .bl j, _ => some (decide (i = j))
  | .isn, .bl i, .bl j, _ => some (!decide (i = j))
  | .isin, a, b, S => inD S a b
  | .nin, a, b, S => (inD S a b).map (!·)
  | _, _, _, _ => none
def outB (o : Option Bool) (S : Store) : Out AV := match o with
  | some b => .ok (.bl b) S
  | none => .no
def truth (S : Store) : AV → Option Bool
  | .non => some false
  | .bl b => some b
  | .int i => some (decide (i ≠ 0))
  | .str x => if x.length ≤ sizeLine then some (decide (x.length ≠ 0)) else none
  | .tup l => some (!l.isEmpty)
  | .lst l => some (!l.isEmpty)
  | .scr l => some (!l.isEmpty)
  | .loc i => match S[i]? with
    | some (.lst l) => some (!l.isEmpty)
    | some (.dct false l) => some (!l.isEmpty)
    | _ => none
  | _ => none

/-- a place of a list: from the front, or from the end -/
def ixD (a i : AV) (S : Store) : Out AV := match a, i with
  | .loc p, .str x => match S[p]? with
    | some (.dct _ l) => optD (lookK (.inr x) l) fun v => .ok v S
    | _ => .no
  | .loc p, .int k => match S[p]? with
    | some (.lst l) => optD (atI l k) fun v => .ok v S
    | some (.dct _ l) => optD (lookK (.inl k) l) fun v => .ok v S
    | _ => .no
  | .str z, .int k => if z.length ≤ sizeLine then optD (atI z.cps.toList k) fun c => .ok (.str ⟨#[c]⟩) S else .no
  | a, .int k => optD (itemsOf S a) fun l => optD (atI l k) fun v => .ok v S
  | _, _ => .no
/-- l[lo:hi] -/
def cutA (l : List AV) (lo hi : Option Int) : List AV := (l.drop (HT.sIx l.length 0 lo)).take (HT.sIx l.length l.length hi - HT.sIx l.length 0 lo)
def partD : AV → Option (Option Int)
  | .non => some none
  | .int i => some (some i)
  | _ => none
def cutD (m : Bool) (a : AV) (lo hi : Option Int) (S : Store) : Out AV := match a with
  | .tup l => .ok (.tup (cutA l lo hi)) S
  | a => optD (lstOf S a) fun l => mkL m (cutA l lo hi) S
def slD (m : Bool) (a lo hi : AV) (S : Store) : Out AV := optD (partD lo) fun lo => optD (partD hi) fun hi => cutD m a lo hi S
def revD (m : Bool) (a : AV) (S : Store) : Out AV := optD (lstOf S a) fun l => mkL m l.reverse S

/-- targets of a store: a slot, or a tuple of them -/
inductive Tg where
  | n (i : Nat) | nil | cons (t r : Tg)
  | tup (t : Tg)
/-- its slots -/
def Tg.slots : Tg → List Nat
  | .n i => [i]
  | .nil => []
  | .cons t r => t.slots ++ r.slots
  | .tup t => t.slots
def Tg.len : Tg → Nat
  | .cons _ r => r.len + 1
  | _ => 0
mutual
def tgD : Tg → AV → Ev → Option Ev
  | .n i, a, ρ => some (ρ.set i (some a))
  | .tup t, a, ρ => match a with
    | .tup l => tgsD t l ρ
    | _ => none
  | _, _, _ => none
def tgsD : Tg → List AV → Ev → Option Ev
  | .nil, l, ρ => match l with
    | [] => some ρ
    | _ => none
  | .cons t r, l, ρ => match l with
    | x :: l => match tgD t x ρ with
      | some ρ1 => tgsD r l ρ1
      | none => none
    | [] => none
  | _, _, _ => none
end

inductive Prim
  | len | abs | min2 | max2 | minL | maxL | sum | sorted | sortedSet | tuple | list | int | str | all | any | divmod | isi | dict
  | minT | sortT | sumT | minI
  deriving DecidableEq
inductive Mth
  | append | pop0 | pop | index | count | get | popD | join | split | index2
  deriving DecidableEq

def intsOf : List AV → Option (List Int)
  | [] => some []
  | .int i :: l => (intsOf l).map (i :: ·)
  | _ => none
def blsOf : List AV → Option (List Bool)
  | [] => some []
  | .bl i :: l => (blsOf l).map (i :: ·)
  | _ => none
theorem intsOf_map (l : List Int) : intsOf (l.map .int) = some l := by
  induction l with
  | nil => rfl
  | cons a l ih => simp [intsOf, ih]
theorem blsOf_map (l : List Bool) : blsOf (l.map .bl) = some l := by
  induction l with
  | nil => rfl
  | cons a l ih => simp [blsOf, ih]
theorem intsOf_eq : ∀ {l : List AV} {ns : List Int}, intsOf l = some ns → l = ns.map .int
  | [], ns, h => by simp [intsOf] at h; subst h; rfl
  | a :: l, ns, h => by
    cases a <;> simp [intsOf] at h
    obtain ⟨ms, h1, h2⟩ := h
    subst h2
    simp [intsOf_eq h1]
theorem blsOf_eq : ∀ {l : List AV} {ns : List Bool}, blsOf l = some ns → l = ns.map .bl
  | [], ns, h => by simp [blsOf] at h; subst h; rfl
  | a :: l, ns, h => by
    cases a <;> simp [blsOf] at h
    obtain ⟨ms, h1, h2⟩ := h
    subst h2
    simp [blsOf_eq h1]
/-- the order of tuples -/
def ltA (a b : AV) : Bool := PySem.W.dataLt a.toPy b.toPy
def leA : AV → AV → Bool := PySem.W.dataLe false AV.toPy
def tupNE : AV → Bool
  | .tup (_ :: _) => true
  | _ => false
/-- tuples, each like each -/
def likeT (l : List AV) : Bool := l.all (fun a => tupNE a && dep 6 a) && l.all fun a => l.all fun b => PySem.W.alike a.toPy b.toPy
def minA : List AV → Option AV
  | [] => none
  | a :: l => some (l.foldl (fun a y => if ltA y a = true then y else a) a)
/-- ints, rising -/
def insI (x : Int) : List Int → List Int
  | [] => [x]
  | y :: l => if x ≤ y then x :: y :: l else y :: insI x l
def sortI : List Int → List Int
  | [] => []
  | x :: l => insI x (sortI l)
/-- .. each once -/
def dedI : List Int → List Int
  | [] => []
  | x :: l => if x ∈ l then dedI l else x :: dedI l
def leastI : List Int → Option Int
  | [] => none
  | x :: l => match leastI l with
    | none => some x
    | some y => some (if y < x then y else x)
def mostI : List Int → Option Int
  | [] => none
  | x :: l => match mostI l with
    | none => some x
    | some y => some (if x < y then y else x)

def tyB (n : String) : Bool := n == "int" || n == "bool" || n == "str" || n == "tuple" || n == "list"
/-- the kinds that isinstance is asked of -/
def isTy (S : Store) (n : String) : AV → Option Bool
  | .non => some false
  | .bl _ => some (n == "int" || n == "bool")
  | .int _ => some (n == "int")
  | .str _ => some (n == "str")
  | .tup _ => some (n == "tuple")
  | .lst _ => some (n == "list")
  | .loc i => match S[i]? with
    | some (.lst _) => some (n == "list")
    | _ => none
  | _ => none

def lenD (S : Store) : AV → Option Nat
  | .str x => if x.length ≤ sizeLine then some x.length else none
  | .loc i => match S[i]? with
    | some (.lst l) => some l.length
    | some (.dct false l) => some l.length
    | _ => none
  | a => (itemsOf S a).map List.length
/-- what is told of a list of ints, of truths -/
def intsD (S : Store) (a : AV) (f : List Int → Out AV) : Out AV := optD (lstOf S a) fun l => optD (intsOf l) f
/-- .. of a tuple, too -/
def intsQ (S : Store) (a : AV) (f : List Int → Out AV) : Out AV := match a with
  | .tup l => optD (intsOf l) f
  | a => intsD S a f
def blsD (S : Store) (a : AV) (f : List Bool → Out AV) : Out AV := optD (lstOf S a) fun l => optD (blsOf l) f
def primD (m : Bool) (p : Prim) (as : List AV) (S : Store) : Out AV := match p, as with
  | .len, [a] => optD (lenD S a) fun n => .ok (.int n) S
  | .abs, [.int i] => .ok (.int (if i < 0 then -i else i)) S
  | .min2, [.int i, .int j] => .ok (.int (if j < i then j else i)) S
  | .max2, [.int i, .int j] => .ok (.int (if i < j then j else i)) S
  | .minL, [a] => intsD S a fun ns => optD (leastI ns) fun i => .ok (.int i) S
  | .maxL, [a] => intsD S a fun ns => optD (mostI ns) fun i => .ok (.int i) S
  | .sum, [a] => intsD S a fun ns => .ok (.int ns.sum) S
  | .sorted, [a] => intsD S a fun ns => mkL m ((sortI ns).map .int) S
  | .sumT, [.tup l] => optD (intsOf l) fun ns => .ok (.int ns.sum) S
  | .minI, [.tup l] => optD (intsOf l) fun ns => optD (leastI ns) fun i => .ok (.int i) S
  | .minT, [a] => optD (lstOf S a) fun l => if likeT l = true then optD (minA l) fun r => .ok r S else .no
  | .sortT, [a] => optD (lstOf S a) fun l => if likeT l = true then mkL m (l.mergeSort leA) S else .no
  | .sortedSet, [a] => intsD S a fun ns => if ns.length < 61 then mkL m ((sortI (dedI ns)).map .int) S else .no
  | .tuple, [.tup l] => .ok (.tup l) S
  | .tuple, [a] => optD (lstOf S a) fun l => .ok (.tup l) S
  | .list, [.tup l] => mkL m l S
  | .list, [a] => optD (lstOf S a) fun l => mkL m l S
  | .int, [.int i] => .ok (.int i) S
  | .int, [.bl b] => .ok (.int (if b then 1 else 0)) S
  | .all, [a] => blsD S a fun bs => .ok (.bl (bs.all id)) S
  | .any, [a] => blsD S a fun bs => .ok (.bl (bs.any id)) S
  | .divmod, [.int i, .int j] => if 0 < j ∧ j < 1073741824 then .ok (.tup [.int (i / j), .int (i % j)]) S else .no
  | .isi, [a, .ty n] => if tyB n = true then optD (isTy S n a) fun b => .ok (.bl b) S else .no
  | _, _ => .no
def mthD (m : Bool) (p : Mth) (r : AV) (as : List AV) (S : Store) : Out AV := match p, r, as with
  | .append, .loc i, [a] => match S[i]? with
    | some (.lst l) => if l.length < sizeLine then .ok .non (S.set i (.lst (l ++ [a]))) else .no
    | _ => .no
  | .pop0, .loc i, [] => match S[i]? with
    | some (.lst l) => optD l[l.length - 1]? fun v => .ok v (S.set i (.lst l.dropLast))
    | _ => .no
  | .pop, .loc i, [.int k] => match S[i]? with
    | some (.lst l) => if -(2 ^ 63) ≤ k ∧ k < 2 ^ 63 then optD (seqIndex? k l.length) fun j => optD l[j]? fun v => .ok v (S.set i (.lst (l.eraseIdx j))) else .no
    | _ => .no
  | .index, a, [.int k] => intsD S a fun ns => if k ∈ ns then .ok (.int (ns.idxOf k : Nat)) S else .no
  | .index2, a, [.int k, .int i] => intsD S a fun ns => if 0 ≤ i ∧ i ≤ 1000000 ∧ k ∈ ns.drop i.toNat then .ok (.int (i.toNat + (ns.drop i.toNat).idxOf k : Nat)) S else .no
  | .count, a, [.int k] => intsD S a fun ns => .ok (.int (ns.count k : Nat)) S
  | _, _, _ => .no
/-- what a method is called of -/
def rcvOk (p : Mth) (S : Store) (x : AV) : Bool := match p with
  | .get => match x with
    | .loc i => match S[i]? with
      | some (.dct false _) => true
      | some (.dcT false _) => true
      | _ => false
    | _ => false
  | .popD => match x with
    | .loc i => match S[i]? with
      | some (.dct false _) => true
      | _ => false
    | _ => false
  | .join => match x with
    | .str _ => true
    | _ => false
  | .split => match x with
    | .str _ => true
    | _ => false
  | _ => (lstOf S x).isSome
/-- a[i] = v -/
def setD (a i v : AV) (S : Store) : Option Store := match a, i with
  | .loc p, .int k => match S[p]? with
    | some (.lst l) => match ixN l.length k with
      | some j => some (S.set p (.lst (l.set j v)))
      | none => none
    | some (.dct false l) => if l.length < sizeLine then some (S.set p (.dct false (putA (.inl k) v l))) else none
    | _ => none
  | .loc p, .str x => match S[p]? with
    | some (.dct false l) => if l.length < sizeLine then some (S.set p (.dct false (putA (.inr x) v l))) else none
    | _ => none
  | .loc p, .tup ks => match S[p]?, keysOf (.tup ks) with
    | some (.dcT false l), some k => if l.length < sizeLine then some (S.set p (.dcT false (putA k v l))) else none
    | _, _ => none
  | _, _ => none

abbrev Dn := Ev → Store → Out AV
inductive OS where
  | nx (ρ : Ev) (S : Store) | rt (a : AV) (S : Store) | bk (ρ : Ev) (S : Store) | ct (ρ : Ev) (S : Store) | ex (c : AV) (ρ : Ev) (S : Store) | no
/-- a form of the text: which expressions it is made of, what it does with them -/
structure Form where
  mat : Scope → Expr → Option (List Expr)
  sem : List Dn → Dn
structure FormI where
  mat : Scope → Expr → Expr → Option (List Expr)
  sem : List Dn → Ev → Store → Out (List AV × List (Nat × List AV))
structure FormS where
  mat : List Str → Scope → Stmt → Option (List Expr)
  sem : List Dn → Ev → Store → OS

/-- a form of a comparison -/
structure FormC where
  o : COp
  sem : AV → AV → Store → Out AV
/-- a form of a statement that has a block -/
structure FormT where
  mat : List Str → Scope → Stmt → Option (List Stmt)
  sem : (Ev → Store → OS) → Ev → Store → OS

inductive E where
  | ext (F : Form) (l : E) | iext (F : FormI) (l : E)
  | nil | cons (a r : E) | nop
  | v (i : Nat) | c (a : AV) | g (x : Str) (a : AV) | bt (n : String)
  | bin (m : Bool) (o : BOp) (a b : E) | neg (a : E) | not (a : E)
  | cmp (o : COp) (a b : E) | cmx (F : FormC) (a b : E) | chain (o p : COp) (a b c : E)
  | and (a b : E) | or (a b : E) | ite (c a b : E)
  | tup (l : E) | lst (m : Bool) (l : E)
  | ix (a i : E) | sl (m : Bool) (a lo hi : E) | rev (m : Bool) (a : E)
  | call (x : Str) (d : Fn) (l : E) | prim (m : Bool) (p : Prim) (l : E) | met (m : Bool) (p : Mth) (r l : E)
  | comp (m : Bool) (own : List Nat) (t : Tg) (it e cd : E)
  | lrg (m : Bool) (a : E) | sset (m : Bool) (a : E) | lrg2 (m : Bool) (a b : E) | lrg3 (m : Bool) (a b c : E)
  | itv (e : E) | it1 (a : E) | it2 (a b : E) | it3 (a b c : E) | ien (e : E) | izp (a b : E) | ienz (a b : E)

/-- the lists that a walk goes over stand as they stood -/
def Gd (gs : List (Nat × List AV)) (S : Store) : Prop := ∀ p ∈ gs, S[p.1]? = some (.lst p.2)
@[simp] theorem Gd_nil (S : Store) : Gd [] S = True := by simp [Gd]
def wipeE (ρ : Ev) : List Nat → Ev
  | [] => ρ
  | v :: vs => (wipeE ρ vs).set v none

open Classical in
noncomputable def compD (t : Tg) (e : Ev → Store → Out AV) (cd : Ev → Store → Out AV) (gs : List (Nat × List AV)) (ρ : Ev) : List AV → Store → Out (List AV)
  | [], S => if Gd gs S then .ok [] S else .no
  | a :: r, S => if Gd gs S then match tgD t a ρ with
      | some ρ1 => (cd ρ1 S).bd fun b S1 => match b with
        | .bl true => (e ρ1 S1).bd fun x S2 => (compD t e cd gs ρ r S2).bd fun l S3 => if l.length < sizeLine then .ok (x :: l) S3 else .no
        | .bl false => compD t e cd gs ρ r S1
        | _ => .no
      | none => .no
    else .no
open Classical in
noncomputable def forD (t : Tg) (b : Ev → Store → OS) (gs : List (Nat × List AV)) : List AV → Ev → Store → OS
  | [], ρ, S => if Gd gs S then .nx ρ S else .no
  | a :: r, ρ, S => if Gd gs S then match tgD t a ρ with
      | some ρ1 => match b ρ1 S with
        | .nx ρ2 S2 => forD t b gs r ρ2 S2
        | .ct ρ2 S2 => forD t b gs r ρ2 S2
        | .bk ρ2 S2 => .nx ρ2 S2
        | o => o
      | none => .no
    else .no
def whlN (c : Ev → Store → Out AV) (b : Ev → Store → OS) : Nat → Ev → Store → OS
  | 0, _, _ => .no
  | n + 1, ρ, S => match c ρ S with
    | .ok (.bl true) S1 => match b ρ S1 with
      | .nx ρ2 S2 => whlN c b n ρ2 S2
      | .ct ρ2 S2 => whlN c b n ρ2 S2
      | .bk ρ2 S2 => .nx ρ2 S2
      | o => o
    | .ok (.bl false) S1 => .nx ρ S1
    | _ => .no
open Classical in
noncomputable def whlD (c : Ev → Store → Out AV) (b : Ev → Store → OS) (ρ : Ev) (S : Store) : OS :=
  if h : ∃ n, whlN c b n ρ S ≠ .no then whlN c b (Classical.choose h) ρ S else .no

/-- a part of a slice: left out, or an int -/
def E.isNop : E → Bool
  | .nop => true
  | _ => false
def prt (b : Bool) (x : Out AV) : Out AV := if b then x else x.bd fun y S => match y with
  | .int i => .ok (.int i) S
  | _ => .no
/-- a value's truth, as a bool -/
def truD (x : Out AV) : Out AV := x.bd fun a S => outB (truth S a) S

/-- a comprehension's if -/
def cdD (b : Bool) (m : Ev → Store → Out AV) : Ev → Store → Out AV := fun ρ S => if b then .ok (.bl true) S else truD (m ρ S)
def gdOf (x : AV) (l : List AV) : List (Nat × List AV) := match x with
  | .loc i => [(i, l)]
  | _ => []
/-- two lists, or two tuples, and what has to stay -/
def zipD {α : Type} (x y : AV) (S : Store) (f : List AV → List AV → List (Nat × List AV) → Out α) : Out α := match x, y with
  | .tup l, .tup k => f l k []
  | x, y => optD (lstOf S x) fun l => optD (lstOf S y) fun k => f l k (gdOf x l ++ gdOf y k)
/-- enumerate of a tuple, of a list -/
def enD (x : AV) (S : Store) : Out (List AV × List (Nat × List AV)) := match x with
  | .tup l => .ok (l.mapIdx fun k x => .tup [.int k, x], []) S
  | .ftp l => .ok (l.mapIdx fun k x => .tup [.int k, x], []) S
  | x => optD (lstOf S x) fun l => .ok (l.mapIdx fun k x => .tup [.int k, x], gdOf x l) S
/-- how many numbers a range with a step has -/
def rgN (i j k : Int) : Nat := ((j - i + k - 1) / k).toNat
mutual
noncomputable def den : E → Ev → Store → Out AV
  | .v i, ρ, S => match ρ[i]? with
    | some (some a) => .ok a S
    | _ => .no
  | .c a, _, S => .ok a S
  | .g _ a, _, S => .ok a S
  | .bt n, _, S => .ok (.ty n) S
  | .nop, _, S => .ok .non S
  | .bin m o a b, ρ, S => (den a ρ S).bd fun x S1 => (den b ρ S1).bd fun y S2 => binD m o x y S2
  | .neg a, ρ, S => (den a ρ S).bd fun x S1 => match x with
    | .int i => .ok (.int (-i)) S1
    | _ => .no
  | .not a, ρ, S => (den a ρ S).bd fun x S1 => outB ((truth S1 x).map (!·)) S1
  | .cmp o a b, ρ, S => (den a ρ S).bd fun x S1 => (den b ρ S1).bd fun y S2 => outB (cmpD o x y S2) S2
  | .cmx F a b, ρ, S => (den a ρ S).bd fun x S1 => (den b ρ S1).bd fun y S2 => F.sem x y S2
  | .chain o p a b c, ρ, S => (den a ρ S).bd fun x S1 => (den b ρ S1).bd fun y S2 => match cmpD o x y S2 with
    | some true => (den c ρ S2).bd fun z S3 => outB (cmpD p y z S3) S3
    | some false => .ok (.bl false) S2
    | none => .no
  | .and a b, ρ, S => (den a ρ S).bd fun x S1 => match truth S1 x with
    | some true => den b ρ S1
    | some false => .ok x S1
    | none => .no
  | .or a b, ρ, S => (den a ρ S).bd fun x S1 => match truth S1 x with
    | some true => .ok x S1
    | some false => den b ρ S1
    | none => .no
  | .ite c a b, ρ, S => (den c ρ S).bd fun x S1 => match truth S1 x with
    | some true => den a ρ S1
    | some false => den b ρ S1
    | none => .no
  | .tup l, ρ, S => (denL l ρ S).bd fun xs S1 => if xs.length ≤ sizeLine then .ok (.tup xs) S1 else .no
  | .lst m l, ρ, S => (denL l ρ S).bd fun xs S1 => if xs.length ≤ sizeLine then mkL m xs S1 else .no
  | .ext F l, ρ, S => F.sem (denF l) ρ S
  | .ix a i, ρ, S => (den a ρ S).bd fun x S1 => (den i ρ S1).bd fun y S2 => ixD x y S2
  | .sl m a lo hi, ρ, S => (den a ρ S).bd fun x S1 => (prt lo.isNop (den lo ρ S1)).bd fun y S2 => (prt hi.isNop (den hi ρ S2)).bd fun z S3 => slD m x y z S3
  | .rev m a, ρ, S => (den a ρ S).bd fun x S1 => revD m x S1
  | .call _ d l, ρ, S => (denL l ρ S).bd fun xs S1 => d xs S1
  | .prim m p l, ρ, S => (denL l ρ S).bd fun xs S1 => primD m p xs S1
  | .met m p r l, ρ, S => (den r ρ S).bd fun x S1 => if rcvOk p S1 x = true then (denL l ρ S1).bd fun xs S2 => mthD m p x xs S2 else .no
  | .comp m own t it e cd, ρ, S => (denI it ρ S).bd fun w S1 => (compD t (fun ρ S => den e ρ S) (cdD cd.isNop fun ρ S => den cd ρ S) w.2 (wipeE ρ own) w.1 S1).bd fun l S2 => mkL m l S2
  | .lrg2 m a b, ρ, S => (den a ρ S).bd fun x S1 => (den b ρ S1).bd fun y S2 => match x, y with
    | .int i, .int j => if -(2 ^ 60) ≤ i ∧ i ≤ 2 ^ 60 ∧ -(2 ^ 60) ≤ j ∧ j ≤ 2 ^ 60 ∧ j - i ≤ 10000000 then mkL m ((List.range (j - i).toNat).map fun (k : Nat) => .int (i + k)) S2 else .no
    | _, _ => .no
  | .lrg3 m a b c, ρ, S => (den a ρ S).bd fun x S1 => (den b ρ S1).bd fun y S2 => (den c ρ S2).bd fun z S3 => match x, y, z with
    | .int i, .int j, .int k => if -(2 ^ 60) ≤ i ∧ i ≤ 2 ^ 60 ∧ -(2 ^ 60) ≤ j ∧ j ≤ 2 ^ 60 ∧ j - i ≤ 10000000 ∧ 0 < k ∧ k ≤ 1000000 then mkL m ((List.range (rgN i j k)).map fun (t : Nat) => .int (i + t * k)) S3 else .no
    | _, _, _ => .no
  | .sset m a, ρ, S => (den a ρ S).bd fun x S1 => intsQ S1 x fun ns => if ns.length < 61 then mkL m ((sortI (dedI ns)).map .int) S1 else .no
  | .lrg m a, ρ, S => (den a ρ S).bd fun x S1 => match x with
    | .int j => if -(2 ^ 60) ≤ j ∧ j ≤ 10000000 then mkL m ((List.range j.toNat).map fun (k : Nat) => .int k) S1 else .no
    | _ => .no
  | _, _, _ => .no
noncomputable def denL : E → Ev → Store → Out (List AV)
  | .nil, _, S => .ok [] S
  | .cons a r, ρ, S => (den a ρ S).bd fun x S1 => (denL r ρ S1).bd fun xs S2 => .ok (x :: xs) S2
  | _, _, _ => .no
/-- the parts of a form -/
noncomputable def denF : E → List Dn
  | .cons a r => (fun ρ S => den a ρ S) :: denF r
  | _ => []
/-- what is walked: its items, the lists that have to stay -/
noncomputable def denI : E → Ev → Store → Out (List AV × List (Nat × List AV))
  | .itv e, ρ, S => (den e ρ S).bd fun x S1 => match x with
    | .loc i => match S1[i]? with
      | some (.lst l) => .ok (l, [(i, l)]) S1
      | _ => .no
    | .str z => .ok (z.cps.toList.map fun c => .str ⟨#[c]⟩, []) S1
    | x => match itemsOf S1 x with
      | some l => .ok (l, []) S1
      | none => .no
  | .it1 a, ρ, S => (den a ρ S).bd fun x S1 => match x with
    | .int j => if j ≤ 2 ^ 60 ∧ -(2 ^ 60) ≤ j then .ok ((List.range j.toNat).map fun (k : Nat) => .int k, []) S1 else .no
    | _ => .no
  | .it2 a b, ρ, S => (den a ρ S).bd fun x S1 => (den b ρ S1).bd fun y S2 => match x, y with
    | .int i, .int j => if j ≤ 2 ^ 60 ∧ -(2 ^ 60) ≤ j ∧ i ≤ 2 ^ 60 ∧ -(2 ^ 60) ≤ i then .ok ((List.range (j - i).toNat).map fun (k : Nat) => .int (i + k), []) S2 else .no
    | _, _ => .no
  | .it3 a b c, ρ, S => (den a ρ S).bd fun x S1 => (den b ρ S1).bd fun y S2 => (den c ρ S2).bd fun z S3 => match x, y, z with
    | .int i, .int j, .int (-1) => if j ≤ 2 ^ 60 ∧ -(2 ^ 60) ≤ j ∧ i ≤ 2 ^ 60 ∧ -(2 ^ 60) ≤ i then .ok ((List.range (i - j).toNat).map fun (k : Nat) => .int (i - k), []) S3 else .no
    | _, _, _ => .no
  | .ien e, ρ, S => (den e ρ S).bd fun x S1 => enD x S1
  | .izp a b, ρ, S => (den a ρ S).bd fun x S1 => (den b ρ S1).bd fun y S2 => zipD x y S2 fun l k gs => .ok ((l.zip k).map fun p => .tup [p.1, p.2], gs) S2
  | .iext F l, ρ, S => F.sem (denF l) ρ S
  | .ienz a b, ρ, S => (den a ρ S).bd fun x S1 => (den b ρ S1).bd fun y S2 => zipD x y S2 fun l k gs => .ok ((l.zip k).mapIdx fun j p => .tup [.int j, .tup [p.1, p.2]], gs) S2
  | _, _, _ => .no
end

inductive St where
  | ext (F : FormS) (l : E) | opq
  | nil | cons (s r : St)
  | asg (t : Tg) (e : E) | aug (i : Nat) (o : BOp) (e : E) | set (a i e : E) | augS (o : BOp) (a i e : E)
  | ex (e : E) | ret (e : E) | ifs (c : E) (a b : St) | whl (c : E) (b : St) | for (t : Tg) (it : E) (b : St)
  | brk | cont | pass
  | lock (f : Ev → Store → Option Nat) (s : St)
  | tr (F : FormT) (s : St)
/-- what was walked is free again -/
def unlk (i : Nat) : OS → OS
  | .nx ρ S => match S[i]? with
    | some (.dct true l) => .nx ρ (S.set i (.dct false l))
    | _ => .no
  | .rt a S => match S[i]? with
    | some (.dct true l) => .rt a (S.set i (.dct false l))
    | _ => .no
  | .ex c ρ S => match S[i]? with
    | some (.dct true l) => .ex c ρ (S.set i (.dct false l))
    | _ => .no
  | _ => .no
def Out.st (x : Out AV) (ρ : Ev) (f : AV → Store → OS) : OS := match x with
  | .ok a S => f a S
  | _ => .no
@[simp] theorem st_ok (a : AV) (S : Store) (ρ : Ev) (f : AV → Store → OS) : (Out.ok a S).st ρ f = f a S := rfl
@[simp] theorem st_ex (c : AV) (S : Store) (ρ : Ev) (f : AV → Store → OS) : (Out.ex c S).st ρ f = .no := rfl
@[simp] theorem st_no (ρ : Ev) (f : AV → Store → OS) : (Out.no).st ρ f = .no := rfl
noncomputable def denS : St → Ev → Store → OS
  | .nil, ρ, S => .nx ρ S
  | .cons s r, ρ, S => match denS s ρ S with
    | .nx ρ1 S1 => denS r ρ1 S1
    | o => o
  | .asg t e, ρ, S => (den e ρ S).st ρ fun a S1 => match tgD t a ρ with
    | some ρ1 => .nx ρ1 S1
    | none => .no
  | .aug i o e, ρ, S => match ρ[i]? with
    | some (some x) => (den e ρ S).st ρ fun y S1 => match x, y with
      | .int _, .int _ => (binD false o x y S1).st ρ fun z S2 => .nx (ρ.set i (some z)) S2
      | _, _ => .no
    | _ => .no
  | .set a i e, ρ, S => (den e ρ S).st ρ fun v S1 => (den a ρ S1).st ρ fun x S2 => (den i ρ S2).st ρ fun y S3 => match setD x y v S3 with
    | some S4 => .nx ρ S4
    | none => .no
  | .augS o a i e, ρ, S => (den a ρ S).st ρ fun x S1 => (den i ρ S1).st ρ fun y S2 => (ixD x y S2).st ρ fun u S3 => (den e ρ S3).st ρ fun v S4 => match u, v with
      | .int _, .int _ => (binD false o u v S4).st ρ fun z S5 => match setD x y z S5 with
        | some S6 => .nx ρ S6
        | none => .no
      | _, _ => .no
  | .ex e, ρ, S => (den e ρ S).st ρ fun _ S1 => .nx ρ S1
  | .ret e, ρ, S => (den e ρ S).st ρ fun a S1 => .rt a S1
  | .ifs c a b, ρ, S => (truD (den c ρ S)).st ρ fun x S1 => match x with
    | .bl true => denS a ρ S1
    | .bl false => denS b ρ S1
    | _ => .no
  | .whl c b, ρ, S => whlD (fun ρ S => truD (den c ρ S)) (fun ρ S => denS b ρ S) ρ S
  | .for t it b, ρ, S => match denI it ρ S with
    | .ok w S1 => forD t (fun ρ S => denS b ρ S) w.2 w.1 ρ S1
    | _ => .no
  | .lock f s, ρ, S => match f ρ S with
    | some i => match S[i]? with
      | some (.dct false l) => unlk i (denS s ρ (S.set i (.dct true l)))
      | _ => .no
    | none => .no
  | .ext F l, ρ, S => F.sem (denF l) ρ S
  | .tr F s, ρ, S => F.sem (fun ρ S => denS s ρ S) ρ S
  | .opq, _, _ => .no
  | .brk, ρ, S => .bk ρ S
  | .cont, ρ, S => .ct ρ S
  | .pass, ρ, S => .nx ρ S

/-- behind a call: what it made is gone, or stays -/
def TrOk (S S' : Store) : Prop := S.length ≤ S'.length ∧ ∀ i, i < S.length → S'[i]? = S[i]? ∨ ∃ o, S'[i]? = some o ∧ o.noLoc = true
open Classical in
noncomputable def fin (keep : Bool) (S : Store) (r : AV) (S' : Store) : Out AV :=
  if keep then .ok r S' else if TrOk S S' then match frz 4 S.length S' r with
    | some r => .ok r (S'.take S.length)
    | none => .no
  else .no
noncomputable def mkFn (keep : Bool) (np n : Nat) (b : St) : Fn := fun as S =>
  if as.length = np then match denS b (as.map some ++ List.replicate (n - np) none) S with
    | .rt r S' => fin keep S r S'
    | .nx _ S' => fin keep S .non S'
    | .ex c _ S' => (fin keep S c S').bd fun c S => .ex c S
    | _ => .no
  else .no
end VI

set_option maxRecDepth 100000
/-! VI2: how the store of VI1 stands in the layer's heap. -/
namespace VI
open PySem PySem.Spec PyProof.Rows L2

/-- where the store's objects stand; hid: lists that are just being filled -/
structure Wd where
  φ : Nat → Addr
  n : Nat
  hid : Addr → Prop
  H : Hp
  /-- what is walked just now -/
  lkd : Addr → Prop
/-- what changes no more -/
def Wd.stb (W : Wd) (a : Addr) : Prop := ¬ W.hid a ∧ ∀ i, i < W.n → W.φ i ≠ a

section
variable (K : PySem.W.Frag)
mutual
inductive RV (W : Wd) : AV → V → Prop
  | non : RV W .non .non
  | bl (b : Bool) : RV W (.bl b) (.bl b)
  | int (i : Int) : RV W (.int i) (.int i)
  | str (x : Str) : RV W (.str x) (.str x)
  | ty (n : String) : RV W (.ty n) (.ty n)
  | tup {a : Addr} {xs : List V} {l : List AV} : W.H a = some (.tup xs) → W.stb a → RVs W l xs → RV W (.tup l) (.ref a)
  | ktup {a : Addr} {xs : List V} {l : List AV} : (∀ H, SqT K H a xs) → RVs W l xs → RV W (.ktp l) (.ref a)
  | ftup {a : Addr} {o : Obj} {xs : List V} {l : List AV} : W.H a = some (.frz o (.tup xs)) → o.dict = none → W.stb a → RVs W l xs → RV W (.ftp l) (.ref a)
  | lst {a : Addr} {xs : List V} {l : List AV} : W.H a = some (.lst xs) → W.stb a → RVs W l xs → RV W (.lst l) (.ref a)
  | loc {i : Nat} : i < W.n → RV W (.loc i) (.ref (W.φ i))
  | scr {a : Addr} {o : Obj} {l : List Int} : W.H a = some (.frz o (.lst (l.map V.int))) → W.stb a → RV W (.scr l) (.ref a)
  | scl {a : Addr} {l : List Int} : W.H a = some (.lst (l.map V.int)) → W.stb a → RV W (.scr l) (.ref a)
  | kscr {a : Addr} {l : List Int} : (∀ H, SqL K H a (l.map V.int)) → RV W (.scr l) (.ref a)
inductive RVs (W : Wd) : List AV → List V → Prop
  | nil : RVs W [] []
  | cons {a : AV} {x : V} {l : List AV} {xs : List V} : RV W a x → RVs W l xs → RVs W (a :: l) (x :: xs)
end
end
structure Lw (W W' : Wd) : Prop where
  n : W.n ≤ W'.n
  φ : ∀ i, i < W.n → W'.φ i = W.φ i
  stb : ∀ a o, W.H a = some o → W.stb a → W'.H a = some o ∧ W'.stb a
  lk : W'.lkd = W.lkd
  ll : ∀ a u, W.lkd a → W.H a = some u → W'.H a = some u
structure Le (W W' : Wd) : Prop where
  n : W.n ≤ W'.n
  φ : ∀ i, i < W.n → W'.φ i = W.φ i
  hid : W'.hid = W.hid
  stb : ∀ a o, W.H a = some o → W.stb a → W'.H a = some o ∧ W'.stb a
  hh : ∀ a u, W.hid a → W.H a = some u → W'.H a = some u
  lk : W'.lkd = W.lkd
  ll : ∀ a u, W.lkd a → W.H a = some u → W'.H a = some u
theorem Le.lw {W W' : Wd} (h : Le W W') : Lw W W' := ⟨h.n, h.φ, h.stb, h.lk, h.ll⟩
theorem Lw.le {W W' : Wd} (h : Lw W W') (e : W'.hid = W.hid) (hh : ∀ a u, W.hid a → W.H a = some u → W'.H a = some u) : Le W W' := ⟨h.n, h.φ, e, h.stb, hh, h.lk, h.ll⟩
theorem Lw.refl (W : Wd) : Lw W W := ⟨Nat.le_refl _, fun _ _ => rfl, fun _ _ h s => ⟨h, s⟩, rfl, fun _ _ _ h => h⟩
theorem Lw.trans {A B C : Wd} (h : Lw A B) (k : Lw B C) : Lw A C :=
  ⟨Nat.le_trans h.n k.n, fun i hi => (k.φ i (Nat.lt_of_lt_of_le hi h.n)).trans (h.φ i hi), fun a o e s => let ⟨e1, s1⟩ := h.stb a o e s; k.stb a o e1 s1, k.lk.trans h.lk, fun a u q e => k.ll a u (by rw [h.lk]; exact q) (h.ll a u q e)⟩
theorem Le.refl (W : Wd) : Le W W := ⟨Nat.le_refl _, fun _ _ => rfl, rfl, fun _ _ h s => ⟨h, s⟩, fun _ _ _ h => h, rfl, fun _ _ _ h => h⟩
theorem Le.trans {A B C : Wd} (h : Le A B) (k : Le B C) : Le A C := (h.lw.trans k.lw).le (k.hid.trans h.hid) fun a u q e => k.hh a u (by rw [h.hid]; exact q) (h.hh a u q e)

section
variable {K : PySem.W.Frag} {W W' : Wd}
mutual
theorem RV.mw (L : Lw W W') : ∀ {a : AV} {x : V}, RV K W a x → RV K W' a x
  | _, _, .non => .non
  | _, _, .bl b => .bl b
  | _, _, .int i => .int i
  | _, _, .str x => .str x
  | _, _, .ty n => .ty n
  | _, _, .tup h s r => let ⟨h', s'⟩ := L.stb _ _ h s; .tup h' s' (RVs.mw L r)
  | _, _, .ktup h r => .ktup h (RVs.mw L r)
  | _, _, .ftup h e s r => let ⟨h', s'⟩ := L.stb _ _ h s; .ftup h' e s' (RVs.mw L r)
  | _, _, .lst h s r => let ⟨h', s'⟩ := L.stb _ _ h s; .lst h' s' (RVs.mw L r)
  | _, _, .loc (i := i) h => by rw [← L.φ i h]; exact .loc (Nat.lt_of_lt_of_le h L.n)
  | _, _, .scr h s => let ⟨h', s'⟩ := L.stb _ _ h s; .scr h' s'
  | _, _, .scl h s => let ⟨h', s'⟩ := L.stb _ _ h s; .scl h' s'
  | _, _, .kscr h => .kscr h
theorem RVs.mw (L : Lw W W') : ∀ {l : List AV} {xs : List V}, RVs K W l xs → RVs K W' l xs
  | _, _, .nil => .nil
  | _, _, .cons h r => .cons (RV.mw L h) (RVs.mw L r)
end
theorem RV.mono (L : Le W W') {a : AV} {x : V} (r : RV K W a x) : RV K W' a x := r.mw L.lw
theorem RVs.mono (L : Le W W') {l : List AV} {xs : List V} (r : RVs K W l xs) : RVs K W' l xs := r.mw L.lw
theorem RVs.len : ∀ {l : List AV} {xs : List V}, RVs K W l xs → l.length = xs.length
  | _, _, .nil => rfl
  | _, _, .cons _ r => by rw [List.length_cons, List.length_cons, RVs.len r]
theorem RVs.get : ∀ {l : List AV} {xs : List V} {i : Nat} {a : AV}, RVs K W l xs → l[i]? = some a → ∃ x, xs[i]? = some x ∧ RV K W a x
  | _, _, _, _, .nil, e => by simp at e
  | _, _, 0, _, .cons h _, e => by simp at e; subst e; exact ⟨_, rfl, h⟩
  | _, _, i + 1, _, .cons _ r, e => by simpa using RVs.get r (i := i) (by simpa using e)
theorem RVs.getV : ∀ {l : List AV} {xs : List V} {i : Nat} {x : V}, RVs K W l xs → xs[i]? = some x → ∃ a, l[i]? = some a ∧ RV K W a x
  | _, _, _, _, .nil, e => by simp at e
  | _, _, 0, _, .cons h _, e => by simp at e; subst e; exact ⟨_, rfl, h⟩
  | _, _, i + 1, _, .cons _ r, e => by simpa using RVs.getV r (i := i) (by simpa using e)
theorem RVs.append : ∀ {l m : List AV} {xs ys : List V}, RVs K W l xs → RVs K W m ys → RVs K W (l ++ m) (xs ++ ys)
  | _, _, _, _, .nil, r => r
  | _, _, _, _, .cons h t, r => .cons h (RVs.append t r)
theorem RVs.take : ∀ {l : List AV} {xs : List V} (n : Nat), RVs K W l xs → RVs K W (l.take n) (xs.take n)
  | _, _, 0, _ => by simp; exact .nil
  | _, _, _ + 1, .nil => .nil
  | _, _, n + 1, .cons h r => .cons h (RVs.take n r)
theorem RVs.drop : ∀ {l : List AV} {xs : List V} (n : Nat), RVs K W l xs → RVs K W (l.drop n) (xs.drop n)
  | _, _, 0, r => r
  | _, _, _ + 1, .nil => .nil
  | _, _, n + 1, .cons _ r => RVs.drop n r
theorem RVs.set : ∀ {l : List AV} {xs : List V} (i : Nat) {a : AV} {x : V}, RVs K W l xs → RV K W a x → RVs K W (l.set i a) (xs.set i x)
  | _, _, _, _, _, .nil, _ => .nil
  | _, _, 0, _, _, .cons _ r, h => .cons h r
  | _, _, i + 1, _, _, .cons q r, h => .cons q (RVs.set i r h)
theorem RVs.eraseIdx : ∀ {l : List AV} {xs : List V} (i : Nat), RVs K W l xs → RVs K W (l.eraseIdx i) (xs.eraseIdx i)
  | _, _, _, .nil => .nil
  | _, _, 0, .cons _ r => r
  | _, _, i + 1, .cons q r => .cons q (RVs.eraseIdx i r)
theorem RVs.reverse {l : List AV} {xs : List V} (h : RVs K W l xs) : RVs K W l.reverse xs.reverse := by
  induction l generalizing xs with
  | nil => cases h; exact .nil
  | cons a l ih =>
    cases h with
    | cons p r => rw [List.reverse_cons, List.reverse_cons]; exact (ih r).append (.cons p .nil)
theorem RVs.dropLast {l : List AV} {xs : List V} (h : RVs K W l xs) : RVs K W l.dropLast xs.dropLast := by
  rw [List.dropLast_eq_take, List.dropLast_eq_take, ← h.len]
  exact h.take _
theorem RVs.flat {l : List AV} {xs : List V} (h : RVs K W l xs) : ∀ k : Nat, RVs K W (List.replicate k l).flatten (List.replicate k xs).flatten
  | 0 => .nil
  | k + 1 => by
    rw [List.replicate_succ, List.replicate_succ, List.flatten_cons, List.flatten_cons]
    exact h.append (RVs.flat h k)
theorem RVs.ints : ∀ (ns : List Int), RVs K W (ns.map .int) (ns.map V.int)
  | [] => .nil
  | n :: ns => .cons (.int n) (RVs.ints ns)
theorem RVs.bls : ∀ (ns : List Bool), RVs K W (ns.map .bl) (ns.map V.bl)
  | [] => .nil
  | n :: ns => .cons (.bl n) (RVs.bls ns)
theorem RVs.of_ints : ∀ {ns : List Int} {xs : List V}, RVs K W (ns.map .int) xs → xs = ns.map V.int
  | [], _, h => by cases h; rfl
  | n :: ns, _, h => by
    cases h with
    | cons p r =>
      cases p
      rw [RVs.of_ints r]; rfl
theorem RVs.of_bls : ∀ {ns : List Bool} {xs : List V}, RVs K W (ns.map .bl) xs → xs = ns.map V.bl
  | [], _, h => by cases h; rfl
  | n :: ns, _, h => by
    cases h with
    | cons p r =>
      cases p
      rw [RVs.of_bls r]; rfl

/-- entries of a dict -/
def RKs (K : PySem.W.Frag) {κ : Type} (W : Wd) (l : List (κ × AV)) (xs : List (κ × V)) : Prop := l.map (·.1) = xs.map (·.1) ∧ RVs K W (l.map (·.2)) (xs.map (·.2))
theorem RKs.mw {κ : Type} {l : List (κ × AV)} {xs : List (κ × V)} (L : Lw W W') (h : RKs K W l xs) : RKs K W' l xs := ⟨h.1, h.2.mw L⟩
theorem RKs.nil {κ : Type} : RKs K W ([] : List (κ × AV)) [] := ⟨rfl, .nil⟩
theorem RKs.len {κ : Type} {l : List (κ × AV)} {xs : List (κ × V)} (h : RKs K W l xs) : l.length = xs.length := by simpa using h.2.len
theorem RKs.cons_iff {κ : Type} {p : κ × AV} {q : κ × V} {l : List (κ × AV)} {xs : List (κ × V)} : RKs K W (p :: l) (q :: xs) ↔ p.1 = q.1 ∧ RV K W p.2 q.2 ∧ RKs K W l xs := by
  constructor
  · rintro ⟨h1, h2⟩
    simp only [List.map_cons, List.cons.injEq] at h1 h2
    cases h2 with
    | cons a b => exact ⟨h1.1, a, h1.2, b⟩
  · rintro ⟨h1, h2, h3, h4⟩
    exact ⟨by simp [h1, h3], .cons h2 h4⟩
section
variable {κ : Type} [DecidableEq κ]
theorem RKs.cases {motive : List (κ × AV) → List (κ × V) → Prop} {l : List (κ × AV)} {xs : List (κ × V)} (h : RKs K W l xs) (h0 : motive [] [])
    (h1 : ∀ (k : κ) (a : AV) (x : V) l xs, RV K W a x → RKs K W l xs → motive l xs → motive ((k, a) :: l) ((k, x) :: xs)) : motive l xs := by
  induction l generalizing xs with
  | nil => cases xs with
    | nil => exact h0
    | cons q xs => have := h.len; simp at this
  | cons p l ih => cases xs with
    | nil => have := h.len; simp at this
    | cons q xs =>
      obtain ⟨k, a⟩ := p
      obtain ⟨k', x⟩ := q
      obtain ⟨e, r, t⟩ := RKs.cons_iff.mp h
      cases e
      exact h1 k a x l xs r t (ih t)
theorem RKs.hasK {l : List (κ × AV)} {xs : List (κ × V)} (h : RKs K W l xs) (k : κ) : (xs.any fun p => decide (p.1 = k)) = hasKey k l := by
  refine h.cases (motive := fun l xs => (xs.any fun p => decide (p.1 = k)) = hasKey k l) rfl fun q a x l xs _ _ ih => ?_
  simp only [hasKey, List.any_cons] at ih ⊢
  rw [ih]
theorem RKs.look {l : List (κ × AV)} {xs : List (κ × V)} (h : RKs K W l xs) (k : κ) {a : AV} (e : lookK k l = some a) : ∃ x, valV xs k = some x ∧ RV K W a x := by
  revert e
  refine h.cases (motive := fun l xs => lookK k l = some a → ∃ x, valV xs k = some x ∧ RV K W a x) (fun e => by simp [lookK] at e) fun q b x l xs r _ ih e => ?_
  by_cases hq : q = k
  · subst hq
    have e' : b = a := by simpa [lookK] using e
    subst e'
    exact ⟨x, valV_pos rfl, r⟩
  · have e' : lookK k l = some a := by simpa [lookK, List.find?_cons, hq] using e
    obtain ⟨y, h1, h2⟩ := ih e'
    exact ⟨y, by rw [valV_neg hq]; exact h1, h2⟩
theorem RKs.lookN {l : List (κ × AV)} {xs : List (κ × V)} (h : RKs K W l xs) (k : κ) (e : lookK k l = none) : valV xs k = none := by
  revert e
  refine h.cases (motive := fun l xs => lookK k l = none → valV xs k = none) (fun _ => rfl) fun q b x l xs r _ ih e => ?_
  by_cases hq : q = k
  · subst hq
    simp [lookK] at e
  · have e' : lookK k l = none := by simpa [lookK, List.find?_cons, hq] using e
    rw [valV_neg hq]; exact ih e'
theorem RKs.put {l : List (κ × AV)} {xs : List (κ × V)} (h : RKs K W l xs) (k : κ) {a : AV} {x : V} (r : RV K W a x) : RKs K W (putA k a l) (putK xs k x) := by
  have e := h.hasK k
  unfold putA putK
  rw [e]
  unfold hasKey
  by_cases hk : (l.any fun p => decide (p.1 = k)) = true
  · rw [if_pos hk, if_pos hk]
    clear e hk
    refine h.cases (motive := fun l xs => RKs K W (l.map fun p => if p.1 = k then (p.1, a) else p) (xs.map fun kv => if kv.1 = k then (kv.1, x) else kv)) RKs.nil fun q b y l xs r' _ ih => ?_
    rw [List.map_cons, List.map_cons]
    by_cases hq : q = k
    · rw [if_pos hq, if_pos hq]; exact RKs.cons_iff.mpr ⟨rfl, r, ih⟩
    · rw [if_neg hq, if_neg hq]; exact RKs.cons_iff.mpr ⟨rfl, r', ih⟩
  · rw [if_neg hk, if_neg hk]
    refine ⟨by simp [h.1], ?_⟩
    rw [List.map_append, List.map_append]
    exact h.2.append (.cons r .nil)
theorem RKs.drop {l : List (κ × AV)} {xs : List (κ × V)} (h : RKs K W l xs) (k : κ) : RKs K W (dropA k l) (dropK xs k) := by
  refine h.cases (motive := fun l xs => RKs K W (dropA k l) (dropK xs k)) RKs.nil fun q b y l xs r' _ ih => ?_
  unfold dropA dropK at ih ⊢
  rw [List.filter_cons, List.filter_cons]
  by_cases hq : q = k
  · rw [if_neg (by simp [hq]), if_neg (by simp [hq])]; exact ih
  · rw [if_pos (by simp [hq]), if_pos (by simp [hq])]; exact RKs.cons_iff.mpr ⟨rfl, r', ih⟩
end

/-- where the table of a def's inner code objects stands -/
def TabAt (K : PySem.W.Frag) (x : Str) (a : Addr) : Prop :=
  ∃ (f c : Addr) (of oc : Obj) (fd : FuncData) (vs : Array Value), PySem.W.nsIn K mainGlobals x = some (some (.ref f)) ∧ K.lookup f = some of ∧ of.data = .func fd ∧ fd.code = .ref c ∧ K.lookup c = some oc ∧ oc.data = .fields vs ∧ vs[11]? = some (.ref a)
/-- an object of the store, at its address -/
def RO (K : PySem.W.Frag) (W : Wd) (a : Addr) : AObj → Prop
  | .lst l => ∃ xs, W.H a = some (.lst xs) ∧ RVs K W l xs
  | .dct false l => ∃ xs, W.H a = some (.dK xs) ∧ RKs K W l xs
  | .dct true l => W.lkd a ∧ ∃ xs o, W.H a = some (.frz o (.dK xs)) ∧ RKs K W l xs
  | .dcT false l => ∃ xs, W.H a = some (.dT xs) ∧ RKs K W l xs
  | .dcT true l => W.lkd a ∧ ∃ xs o, W.H a = some (.frz o (.dT xs)) ∧ RKs K W l xs
  | .ins c f => ∃ C dx xs, W.H a = some (.ins C dx xs) ∧ PySem.W.nsIn K mainGlobals c = some (some (.ref C)) ∧ RKs K W f xs
  | .tab x => TabAt K x a ∧ ∃ ps : Array Value, W.H a = some (.tbl ps) ∧ TriplesOk ps.toList ∧ ∀ (pos : Pos) (cv : Value), codeAmong pos ps.toList = some cv → ∃ c, cv = .ref c ∧ W.H c = some (LamX.CodeO c (x ++ Str.ofString ".<locals>.<lambda>")) ∧ W.stb c
theorem RO.some {a : Addr} {o : AObj} (h : RO K W a o) : ∃ u, W.H a = some u := by
  cases o with
  | lst l => obtain ⟨xs, e, _⟩ := h; exact ⟨_, e⟩
  | dct b l => cases b with
    | false => obtain ⟨xs, e, _⟩ := h; exact ⟨_, e⟩
    | true => obtain ⟨_, xs, o, e, _⟩ := h; exact ⟨_, e⟩
  | dcT b l => cases b with
    | false => obtain ⟨xs, e, _⟩ := h; exact ⟨_, e⟩
    | true => obtain ⟨_, xs, o, e, _⟩ := h; exact ⟨_, e⟩
  | ins c f => obtain ⟨C, dx, xs, e, _⟩ := h; exact ⟨_, e⟩
  | tab x => obtain ⟨_, ps, e, _⟩ := h; exact ⟨_, e⟩
/-- .. the values within carried to a later world, where the object itself stands as it stood -/
theorem RO.mw {a : Addr} {o : AObj} (L : Lw W W') (e : W'.H a = W.H a) (h : RO K W a o) : RO K W' a o := by
  cases o with
  | lst l => obtain ⟨xs, e1, r⟩ := h; exact ⟨xs, e.trans e1, r.mw L⟩
  | dct c l => cases c with
    | false => obtain ⟨xs, e1, r⟩ := h; exact ⟨xs, e.trans e1, r.mw L⟩
    | true => obtain ⟨q, xs, o, e1, r⟩ := h; exact ⟨by rw [L.lk]; exact q, xs, o, e.trans e1, r.mw L⟩
  | dcT c l => cases c with
    | false => obtain ⟨xs, e1, r⟩ := h; exact ⟨xs, e.trans e1, r.mw L⟩
    | true => obtain ⟨q, xs, o, e1, r⟩ := h; exact ⟨by rw [L.lk]; exact q, xs, o, e.trans e1, r.mw L⟩
  | ins c f => obtain ⟨C, dx, xs, e1, m, r⟩ := h; exact ⟨C, dx, xs, e.trans e1, m, r.mw L⟩
  | tab x => obtain ⟨m, ps, e1, t, r⟩ := h; exact ⟨m, ps, e.trans e1, t, fun pos cv q => let ⟨c, h1, h2, h3⟩ := r pos cv q; let ⟨h4, h5⟩ := L.stb _ _ h2 h3; ⟨c, h1, h4, h5⟩⟩

theorem RO.mono {a : Addr} {o : AObj} (L : Le W W') (e : W'.H a = W.H a) (h : RO K W a o) : RO K W' a o := h.mw L.lw e
structure Rep (K : PySem.W.Frag) (W : Wd) (S : Store) : Prop where
  len : S.length = W.n
  inj : ∀ i j, i < W.n → j < W.n → W.φ i = W.φ j → i = j
  hid : ∀ a, W.hid a → (∃ u, W.H a = some u) ∧ ∀ i, i < W.n → W.φ i ≠ a
  obj : ∀ i o, S[i]? = some o → RO K W (W.φ i) o
  lk : ∀ a, W.lkd a → ∃ i o, S[i]? = some o ∧ W.φ i = a ∧ o.lkO = true
section
variable {S : Store}
theorem Rep.nlk (R : Rep K W S) {i : Nat} {o : AObj} (e : S[i]? = some o) (h : o.lkO = false) : ¬ W.lkd (W.φ i) := fun q => by
  obtain ⟨j, u, e1, e2, e3⟩ := R.lk _ q
  have hi : i < W.n := by rw [← R.len]; exact (List.getElem?_eq_some_iff.mp e).1
  have hj : j < W.n := by rw [← R.len]; exact (List.getElem?_eq_some_iff.mp e1).1
  have := R.inj j i hj hi e2
  subst this
  rw [e] at e1; cases e1
  rw [h] at e3; cases e3
theorem Rep.hlk (R : Rep K W S) {a : Addr} (h : W.hid a) : ¬ W.lkd a := fun q => by
  obtain ⟨j, u, e1, e2, e3⟩ := R.lk _ q
  exact (R.hid a h).2 j (by rw [← R.len]; exact (List.getElem?_eq_some_iff.mp e1).1) e2
theorem Rep.at (R : Rep K W S) {i : Nat} (h : i < W.n) : ∃ u, W.H (W.φ i) = some u := by
  have h' : i < S.length := by rw [R.len]; exact h
  exact (R.obj i _ (List.getElem?_eq_getElem h')).some
/-- what is free is none of ours -/
theorem Rep.free (R : Rep K W S) {p : Addr} (h : W.H p = none) : W.stb p := by
  refine ⟨fun q => ?_, fun i hi e => ?_⟩
  · obtain ⟨⟨u, e⟩, _⟩ := R.hid p q
    rw [h] at e; cases e
  · obtain ⟨u, e'⟩ := R.at hi
    rw [e, h] at e'; cases e'
/-- a new thing is laid -/
def Wd.lay (W : Wd) (p : Addr) (o : HO) : Wd := { W with H := upd W.H p o }
theorem Le.lay {p : Addr} {o : HO} (h : W.H p = none) : Le W (W.lay p o) :=
  ⟨Nat.le_refl _, fun _ _ => rfl, rfl, fun a u e s => ⟨by show upd W.H p o a = _; rw [upd_ne (ne_of_none e h)]; exact e, s⟩, fun a u _ e => by show upd W.H p o a = _; rw [upd_ne (ne_of_none e h)]; exact e, rfl, fun a u _ e => by show upd W.H p o a = _; rw [upd_ne (ne_of_none e h)]; exact e⟩
theorem Rep.lay (R : Rep K W S) {p : Addr} {o : HO} (h : W.H p = none) : Rep K (W.lay p o) S := by
  refine ⟨R.len, R.inj, fun a q => ⟨?_, (R.hid a q).2⟩, fun i u e => ?_, R.lk⟩
  · obtain ⟨⟨u, e⟩, _⟩ := R.hid a q
    exact ⟨u, by show upd W.H p o a = _; rw [upd_ne (ne_of_none e h)]; exact e⟩
  · have r := R.obj i u e
    obtain ⟨v, ev⟩ := r.some
    show RO K (W.lay p o) (W.φ i) u
    exact r.mono (Le.lay h) (by show upd W.H p o (W.φ i) = _; rw [upd_ne (ne_of_none ev h)])
theorem Rep.layStb (R : Rep K W S) {p : Addr} {o : HO} (h : W.H p = none) : (W.lay p o).stb p := R.free h
/-- .. and taken into the store -/
def Wd.add (W : Wd) (p : Addr) (o : HO) : Wd := { W with H := upd W.H p o, n := W.n + 1, φ := fun i => if i = W.n then p else W.φ i }
theorem Le.add {p : Addr} {o : HO} (h : W.H p = none) : Le W (W.add p o) := by
  refine ⟨Nat.le_succ _, fun i hi => if_neg (Nat.ne_of_lt hi), rfl, fun a u e s => ⟨by show upd W.H p o a = _; rw [upd_ne (ne_of_none e h)]; exact e, s.1, fun i hi => ?_⟩, fun a u _ e => by show upd W.H p o a = _; rw [upd_ne (ne_of_none e h)]; exact e, rfl, fun a u _ e => by show upd W.H p o a = _; rw [upd_ne (ne_of_none e h)]; exact e⟩
  show (if i = W.n then p else W.φ i) ≠ a
  split
  · exact (ne_of_none e h).symm
  · exact s.2 i (by have : i < W.n + 1 := hi; omega)
theorem Rep.add (R : Rep K W S) {p : Addr} {o : HO} {ob : AObj} (h : W.H p = none) (r : RO K (W.add p o) p ob) : Rep K (W.add p o) (S ++ [ob]) := by
  have fr := R.free h
  refine ⟨by rw [List.length_append, R.len]; rfl, fun i j hi hj e => ?_, fun a q => ⟨?_, fun i hi => ?_⟩, fun i u e => ?_, fun a q => ?_⟩
  · change i < W.n + 1 at hi
    change j < W.n + 1 at hj
    change (if i = W.n then p else W.φ i) = (if j = W.n then p else W.φ j) at e
    by_cases h1 : i = W.n <;> by_cases h2 : j = W.n
    · omega
    · rw [if_pos h1, if_neg h2] at e; exact absurd e.symm (fr.2 j (by omega))
    · rw [if_neg h1, if_pos h2] at e; exact absurd e (fr.2 i (by omega))
    · rw [if_neg h1, if_neg h2] at e; exact R.inj i j (by omega) (by omega) e
  · obtain ⟨⟨u, e⟩, _⟩ := R.hid a q
    exact ⟨u, by show upd W.H p o a = _; rw [upd_ne (ne_of_none e h)]; exact e⟩
  · show (if i = W.n then p else W.φ i) ≠ a
    split
    · rintro rfl; exact fr.1 q
    · exact (R.hid a q).2 i (by have : i < W.n + 1 := hi; omega)
  · by_cases hi : i < S.length
    · rw [List.getElem?_append_left hi] at e
      have r := R.obj i u e
      obtain ⟨v, ev⟩ := r.some
      have eφ : (W.add p o).φ i = W.φ i := if_neg (by rw [R.len] at hi; omega)
      rw [eφ]
      exact r.mono (Le.add h) (by show upd W.H p o _ = _; rw [upd_ne (ne_of_none ev h)])
    · have hi' : i = S.length := by
        have := (List.getElem?_eq_some_iff.mp e).1
        simp at this; omega
      subst hi'
      have eu : u = ob := by simpa using e.symm
      subst eu
      have eφ : (W.add p o).φ S.length = p := if_pos R.len
      rw [eφ]; exact r
  · obtain ⟨j, u, e1, e2, e3⟩ := R.lk a q
    have hj := (List.getElem?_eq_some_iff.mp e1).1
    exact ⟨j, u, by rw [List.getElem?_append_left hj]; exact e1, (if_neg (by rw [R.len] at hj; omega) : (W.add p o).φ j = W.φ j).trans e2, e3⟩
/-- an object of the store is changed -/
theorem Le.wr (R : Rep K W S) {i : Nat} {o : HO} (hi : i < W.n) (hn : ¬ W.lkd (W.φ i)) : Le W (W.lay (W.φ i) o) :=
  ⟨Nat.le_refl _, fun _ _ => rfl, rfl, fun a u e s => ⟨by show upd W.H _ o a = _; rw [upd_ne (s.2 i hi).symm]; exact e, s⟩, fun a u q e => by show upd W.H _ o a = _; rw [upd_ne ((R.hid a q).2 i hi).symm]; exact e, rfl, fun a u q e => by show upd W.H _ o a = _; rw [upd_ne (fun z => hn (by rw [← z]; exact q))]; exact e⟩
theorem Rep.wr (R : Rep K W S) {i : Nat} {o : HO} {ob : AObj} (hi : i < W.n) (hn : ¬ W.lkd (W.φ i)) (r : RO K (W.lay (W.φ i) o) (W.φ i) ob) : Rep K (W.lay (W.φ i) o) (S.set i ob) := by
  refine ⟨by rw [List.length_set]; exact R.len, R.inj, fun a q => ⟨?_, (R.hid a q).2⟩, fun j u e => ?_, fun a q => ?_⟩
  · obtain ⟨⟨u, e⟩, h2⟩ := R.hid a q
    exact ⟨u, by show upd W.H _ o a = _; rw [upd_ne (h2 i hi).symm]; exact e⟩
  · by_cases hj : j = i
    · subst hj
      rw [List.getElem?_set_self (by rw [R.len]; exact hi)] at e
      cases e
      exact r
    · rw [List.getElem?_set_ne (Ne.symm hj)] at e
      have rj := R.obj j u e
      have hj' : j < W.n := by rw [← R.len]; exact (List.getElem?_eq_some_iff.mp e).1
      show RO K (W.lay (W.φ i) o) (W.φ j) u
      exact rj.mono (Le.wr R hi hn) (by show upd W.H _ o (W.φ j) = _; rw [upd_ne (fun z => hj (R.inj j i hj' hi z))])
  · obtain ⟨j, u, e1, e2, e3⟩ := R.lk a q
    refine ⟨j, u, ?_, e2, e3⟩
    rw [List.getElem?_set_ne]
    · exact e1
    · rintro rfl
      exact hn (by rw [e2]; exact q)
end

/-- the slots -/
structure ER (K : PySem.W.Frag) (W : Wd) (ρ : Ev) (σ : L2.St) : Prop where
  len : ρ.length = σ.length
  at_ : ∀ (i : Nat) (a : AV), ρ[i]? = some (some a) → ∃ x, σ[i]? = some (some x) ∧ RV K W a x
theorem ER.mw {ρ : Ev} {σ : L2.St} (L : Lw W W') (h : ER K W ρ σ) : ER K W' ρ σ := ⟨h.len, fun i a e => let ⟨x, h1, h2⟩ := h.at_ i a e; ⟨x, h1, h2.mw L⟩⟩
theorem ER.mono {ρ : Ev} {σ : L2.St} (L : Le W W') (h : ER K W ρ σ) : ER K W' ρ σ := h.mw L.lw
theorem ER.set {ρ : Ev} {σ : L2.St} (h : ER K W ρ σ) (i : Nat) {a : AV} {x : V} (r : RV K W a x) : ER K W (ρ.set i (some a)) (σ.set i (some x)) := by
  refine ⟨by simpa using h.len, fun j b e => ?_⟩
  by_cases hj : i = j
  · subst hj
    have hl : i < ρ.length := by
      have := (List.getElem?_eq_some_iff.mp e).1
      simpa using this
    rw [List.getElem?_set_self hl] at e
    cases e
    exact ⟨x, List.getElem?_set_self (by rw [← h.len]; exact hl), r⟩
  · rw [List.getElem?_set_ne hj] at e
    obtain ⟨y, h1, h2⟩ := h.at_ j b e
    exact ⟨y, by rw [List.getElem?_set_ne hj]; exact h1, h2⟩
theorem ER.wipe {ρ : Ev} {σ : L2.St} (h : ER K W ρ σ) : ∀ vs : List Nat, ER K W (wipeE ρ vs) (wipe σ vs)
  | [] => h
  | v :: vs => by
    have ih := ER.wipe h vs
    unfold wipeE L2.wipe
    refine ⟨by simpa using ih.len, fun j b e => ?_⟩
    by_cases hj : v = j
    · subst hj
      have hl : v < (wipeE ρ vs).length := by
        have := (List.getElem?_eq_some_iff.mp e).1
        simpa using this
      rw [List.getElem?_set_self hl] at e
      cases e
    · rw [List.getElem?_set_ne hj] at e
      obtain ⟨y, h1, h2⟩ := ih.at_ j b e
      exact ⟨y, by rw [List.getElem?_set_ne hj]; exact h1, h2⟩

/-! ### readings by what a piece does -/
/-- what is known behind a value -/
def Post (K : PySem.W.Frag) (W : Wd) (r : AV) (S' : Store) (Q : VK) : Prop := ∀ W' x, Le W W' → Rep K W' S' → RV K W' r x → Q x W'.H
theorem Post.mono {r : AV} {S' : Store} {Q : VK} (L : Le W W') (h : Post K W r S' Q) : Post K W' r S' Q := fun W2 x L2 R r => h W2 x (L.trans L2) R r
/-- .. behind an outcome -/
def PostO (K : PySem.W.Frag) (W : Wd) (o : Out AV) (Q : VK) : Prop := ∃ r S', o = .ok r S' ∧ Post K W r S' Q
def PostL (K : PySem.W.Frag) (W : Wd) (o : Out (List AV)) (Q : List V → Hp → Prop) : Prop := ∃ r S', o = .ok r S' ∧ ∀ W' xs, Le W W' → Rep K W' S' → RVs K W' r xs → Q xs W'.H
def PostB (K : PySem.W.Frag) (W : Wd) (o : Out AV) (Q : Bool → Hp → Prop) : Prop := ∃ b S', o = .ok (.bl b) S' ∧ ∀ W', Le W W' → Rep K W' S' → Q b W'.H
/-- an exception: its class's name, and what it bears -/
def XR (K : PySem.W.Frag) (W : Wd) (c : AV) (cls : Value) (d : Option Addr) : Prop := match c with
  | .tup [.str n] => d = none ∧ ∃ C, cls = .ref C ∧ PySem.W.nsIn K mainGlobals n = some (some (.ref C))
  | .tup [.str n, .int i, .int j] => ∃ C dx, cls = .ref C ∧ PySem.W.nsIn K mainGlobals n = some (some (.ref C)) ∧ d = some dx ∧ W.H dx = some (.xd [("bucket", .int j), ("spot", .int i)]) ∧ W.stb dx
  | _ => False
theorem XR.mono {c : AV} {cls : Value} {d : Option Addr} (L : Le W W') (h : XR K W c cls d) : XR K W' c cls d := by
  unfold XR at h ⊢
  split at h
  · exact h
  · obtain ⟨C, dx, h1, h2, h3, h4, h5⟩ := h
    obtain ⟨h6, h7⟩ := L.stb _ _ h4 h5
    exact ⟨C, dx, h1, h2, h3, h6, h7⟩
  · exact h
/-- what is known behind an exception -/
def PostX (K : PySem.W.Frag) (W : Wd) (c : AV) (S' : Store) (E : XK) : Prop := ∀ W' cls d, Le W W' → Rep K W' S' → XR K W' c cls d → E cls d W'.H
theorem PostX.mono {c : AV} {S' : Store} {E : XK} (L : Le W W') (h : PostX K W c S' E) : PostX K W' c S' E := fun W2 cls d L2 R r => h W2 cls d (L.trans L2) R r
/-- .. behind an outcome of either kind -/
def PostOX (K : PySem.W.Frag) (W : Wd) (E : XK) (o : Out AV) (Q : VK) : Prop := match o with
  | .ok r S' => Post K W r S' Q
  | .ex c S' => PostX K W c S' E
  | .no => False
theorem PostOX.mono {E : XK} {o : Out AV} {Q : VK} (L : Le W W') (h : PostOX K W E o Q) : PostOX K W' E o Q := by
  cases o with
  | ok r S' => exact Post.mono L h
  | ex c S' => exact PostX.mono L h
  | no => exact h
def PostS (K : PySem.W.Frag) (Wx : WX) (W : Wd) (o : OS) (D : Ends) : Prop := match o with
  | .nx ρ S' => ∀ W' σ, Le W W' → Rep K W' S' → ER K W' ρ σ → D.nx σ W'.H
  | .bk ρ S' => ∀ W' σ, Le W W' → Rep K W' S' → ER K W' ρ σ → D.bk σ W'.H
  | .ct ρ S' => ∀ W' σ, Le W W' → Rep K W' S' → ER K W' ρ σ → D.ct σ W'.H
  | .rt r S' => Post K W r S' D.rt
  | .ex c ρ S' => ∀ W' σ cls d, Le W W' → Rep K W' S' → ER K W' ρ σ → XR K W' c cls d → Wx cls d σ W'.H
  | .no => False
theorem PostO.mono {o : Out AV} {Q : VK} (L : Le W W') : PostO K W o Q → PostO K W' o Q := fun ⟨r, S', e, h⟩ => ⟨r, S', e, h.mono L⟩
theorem PostS.mono {Wx : WX} {o : OS} {D : Ends} (L : Le W W') (h : PostS K Wx W o D) : PostS K Wx W' o D := by
  cases o with
  | nx ρ S' => exact fun W2 σ L2 => h W2 σ (L.trans L2)
  | bk ρ S' => exact fun W2 σ L2 => h W2 σ (L.trans L2)
  | ct ρ S' => exact fun W2 σ L2 => h W2 σ (L.trans L2)
  | rt r S' => exact fun W2 σ L2 => h W2 σ (L.trans L2)
  | ex c ρ S' => exact fun W2 σ cls d L2 => h W2 σ cls d (L.trans L2)
  | no => exact h
/-- a state: slots, heap, and what they stand for -/
structure Stt (K : PySem.W.Frag) (W : Wd) (ρ : Ev) (S : Store) (σ : L2.St) (H : Hp) : Prop where
  hH : W.H = H
  rep : Rep K W S
  er : ER K W ρ σ
def T (K : PySem.W.Frag) (m : Ev → Store → Out AV) : TE := fun σ H Q => ∃ W ρ S, Stt K W ρ S σ H ∧ PostO K W (m ρ S) Q
def TL (K : PySem.W.Frag) (m : Ev → Store → Out (List AV)) : TA := fun σ H Q => ∃ W ρ S, Stt K W ρ S σ H ∧ PostL K W (m ρ S) Q
def TB (K : PySem.W.Frag) (m : Ev → Store → Out AV) : TT := fun σ H Q => ∃ W ρ S, Stt K W ρ S σ H ∧ PostB K W (m ρ S) Q
def TSt (K : PySem.W.Frag) (Wx : WX) (m : Ev → Store → OS) : TS := fun D σ H => ∃ W ρ S, Stt K W ρ S σ H ∧ PostS K Wx W (m ρ S) D
/-- an expression that may raise -/
def TX (K : PySem.W.Frag) (Wx : WX) (m : Ev → Store → Out AV) : TE := fun σ H Q => ∃ W ρ S, Stt K W ρ S σ H ∧ PostOX K W (fun c d H => Wx c d σ H) (m ρ S) Q
/-- an operation by values: what it does of two values -/
def R2D (K : PySem.W.Frag) (f : AV → AV → Store → Out AV) : R2 := fun x y H Q => ∃ W S a b, W.H = H ∧ Rep K W S ∧ RV K W a x ∧ RV K W b y ∧ PostO K W (f a b S) Q
def R1D (K : PySem.W.Frag) (f : AV → Store → Out AV) : V → Hp → VK → Prop := fun x H Q => ∃ W S a, W.H = H ∧ Rep K W S ∧ RV K W a x ∧ PostO K W (f a S) Q
def RLD (K : PySem.W.Frag) (f : List AV → Store → Out AV) : List V → Hp → VK → Prop := fun xs H Q => ∃ W S as, W.H = H ∧ Rep K W S ∧ RVs K W as xs ∧ PostO K W (f as S) Q

theorem Stt.next {ρ : Ev} {S S' : Store} {σ : L2.St} {H : Hp} (s : Stt K W ρ S σ H) (L : Le W W') (R : Rep K W' S') : Stt K W' ρ S' σ W'.H := ⟨rfl, R, s.er.mono L⟩
theorem T.of {m : Ev → Store → Out AV} {ρ : Ev} {S : Store} {σ : L2.St} {H : Hp} {Q : VK} (s : Stt K W ρ S σ H) (h : PostO K W (m ρ S) Q) : T K m σ H Q := ⟨W, ρ, S, s, h⟩
/-- one piece behind another -/
theorem T.bd {m : Ev → Store → Out AV} {f : AV → Store → Out AV} {ρ : Ev} {S : Store} {σ : L2.St} {H : Hp} {Q Q' : VK} (s : Stt K W ρ S σ H) (h : PostO K W ((m ρ S).bd f) Q)
    (k : ∀ a S1 W1 x, Le W W1 → Stt K W1 ρ S1 σ W1.H → RV K W1 a x → PostO K W1 (f a S1) Q → Q' x W1.H) : T K m σ H Q' := by
  obtain ⟨r, S', e, p⟩ := h
  obtain ⟨a, S1, e1, e2⟩ := Out.bd_eq e
  exact ⟨W, ρ, S, s, a, S1, e1, fun W1 x L1 R1 r1 => k a S1 W1 x L1 (s.next L1 R1) r1 ⟨r, S', e2, p.mono L1⟩⟩
theorem TL.bd {m : Ev → Store → Out (List AV)} {f : List AV → Store → Out AV} {ρ : Ev} {S : Store} {σ : L2.St} {H : Hp} {Q : VK} {Q' : List V → Hp → Prop} (s : Stt K W ρ S σ H) (h : PostO K W ((m ρ S).bd f) Q)
    (k : ∀ a S1 W1 x, Le W W1 → Stt K W1 ρ S1 σ W1.H → RVs K W1 a x → PostO K W1 (f a S1) Q → Q' x W1.H) : TL K m σ H Q' := by
  obtain ⟨r, S', e, p⟩ := h
  obtain ⟨a, S1, e1, e2⟩ := Out.bd_eq e
  exact ⟨W, ρ, S, s, a, S1, e1, fun W1 x L1 R1 r1 => k a S1 W1 x L1 (s.next L1 R1) r1 ⟨r, S', e2, p.mono L1⟩⟩
/-- a new list told -/
theorem PostO.mk {m : Bool} {l : List AV} {S : Store} {Q : VK} {xs : List V} {p : Addr} (h : PostO K W (mkL m l S) Q) (R : Rep K W S) (r : RVs K W l xs) (hp : W.H p = none) : Q (.ref p) (upd W.H p (.lst xs)) := by
  obtain ⟨a, S', e, h⟩ := h
  cases m with
  | false =>
    cases e
    exact h (W.lay p (.lst xs)) _ (Le.lay hp) (R.lay hp) (.lst upd_same (R.layStb hp) (r.mono (Le.lay hp)))
  | true =>
    cases e
    have e : (W.add p (.lst xs)).φ W.n = p := if_pos rfl
    have q := h (W.add p (.lst xs)) (.ref p) (Le.add hp) (R.add hp ⟨xs, upd_same, r.mono (Le.add hp)⟩)
    refine q ?_
    rw [R.len]
    have z : RV K (W.add p (.lst xs)) (.loc W.n) (.ref ((W.add p (.lst xs)).φ W.n)) := .loc (Nat.lt_succ_self _)
    rw [e] at z
    exact z
/-- a new tuple told -/
theorem PostO.tup {l : List AV} {S : Store} {Q : VK} {xs : List V} {p : Addr} (h : PostO K W (.ok (.tup l) S) Q) (R : Rep K W S) (r : RVs K W l xs) (hp : W.H p = none) : Q (.ref p) (upd W.H p (.tup xs)) := by
  obtain ⟨a, S', e, h⟩ := h
  cases e
  exact h (W.lay p (.tup xs)) _ (Le.lay hp) (R.lay hp) (.tup upd_same (R.layStb hp) (r.mono (Le.lay hp)))
/-- the same heap behind it -/
theorem PostO.val {a : AV} {S : Store} {Q : VK} {x : V} (h : PostO K W (.ok a S) Q) (R : Rep K W S) (r : RV K W a x) : Q x W.H := by
  obtain ⟨b, S', e, h⟩ := h
  cases e
  exact h W x (Le.refl W) R r
/-! a list or tuple as the layer's readings want it -/
theorem RV.itT {l : List AV} {x : V} (r : RV K W (.tup l) x) : ∃ a xs, x = .ref a ∧ SqT K W.H a xs ∧ RVs K W l xs := by
  cases r with
  | tup h s r => exact ⟨_, _, rfl, SqT.of h, r⟩
theorem lst_it {S : Store} {a : AV} {x : V} {l : List AV} (R : Rep K W S) (r : RV K W a x) (e : lstOf S a = some l) : ∃ p xs, x = .ref p ∧ W.H p = some (.lst xs) ∧ RVs K W l xs := by
  cases a with
  | lst m =>
    cases e
    cases r with
    | lst h s r => exact ⟨_, _, rfl, h, r⟩
  | loc i =>
    simp only [lstOf] at e
    split at e
    · rename_i m hm
      cases e
      cases r with
      | loc h =>
        obtain ⟨xs, e1, r1⟩ := R.obj i _ hm
        exact ⟨_, _, rfl, e1, r1⟩
    · cases e
  | _ => cases e
theorem scr_it {l : List Int} {x : V} (r : RV K W (.scr l) x) : ∃ p, x = .ref p ∧ SqL K W.H p (l.map V.int) := by
  cases r with
  | scr h s => exact ⟨_, rfl, .inl (.inr ⟨_, h⟩)⟩
  | scl h s => exact ⟨_, rfl, .inl (.inl h)⟩
  | kscr h => exact ⟨_, rfl, h _⟩
theorem items_it {S : Store} {a : AV} {x : V} {l : List AV} (R : Rep K W S) (r : RV K W a x) (e : itemsOf S a = some l) : ∃ p xs, x = .ref p ∧ (SqL K W.H p xs ∨ SqT K W.H p xs) ∧ RVs K W l xs := by
  cases a with
  | tup m =>
    cases e
    obtain ⟨p, xs, h1, h2, h3⟩ := r.itT
    exact ⟨p, xs, h1, .inr h2, h3⟩
  | lst m =>
    obtain ⟨p, xs, h1, h2, h3⟩ := lst_it R r (l := l) (by simpa [lstOf, itemsOf] using e)
    exact ⟨p, xs, h1, .inl (SqL.of h2), h3⟩
  | scr m =>
    cases e
    obtain ⟨p, h1, h2⟩ := scr_it r
    exact ⟨p, _, h1, .inl h2, RVs.ints m⟩
  | ktp m =>
    cases e
    cases r with
    | ktup h r => exact ⟨_, _, rfl, .inr (h _), r⟩
  | ftp m =>
    cases e
    cases r with
    | ftup h _ s r => exact ⟨_, _, rfl, .inr (.inl (.inr ⟨_, h⟩)), r⟩
  | loc i =>
    obtain ⟨p, xs, h1, h2, h3⟩ := lst_it R r (l := l) (by simpa [lstOf, itemsOf] using e)
    exact ⟨p, xs, h1, .inl (SqL.of h2), h3⟩
  | _ => cases e
end
end VI

set_option maxRecDepth 100000
set_option maxHeartbeats 1000000
/-! VI3: the operations. -/
namespace VI
open PySem PySem.Spec PyProof.Rows L2

def opB : BOp → Operator
  | .add => .Add
  | .sub => .Sub
  | .mul => .Mult
  | .fdiv => .FloorDiv
  | .mod => .Mod
  | .pow => .Pow
  | .shl => .LShift
  | .shr => .RShift
  | .band => .BitAnd
def opC : COp → CmpOp
  | .eq => .Eq
  | .ne => .NotEq
  | .lt => .Lt
  | .le => .LtE
  | .gt => .Gt
  | .ge => .GtE
  | .is => .Is
  | .isn => .IsNot
  | .isin => .In
  | .nin => .NotIn
section
variable {K : PySem.W.Frag} {W : Wd} {Q : VK}
theorem PostO.no (h : PostO K W .no Q) : False := by
  obtain ⟨_, _, e, _⟩ := h
  cases e
theorem PostO.opt {α : Type} {o : Option α} {f : α → Out AV} (h : PostO K W (optD o f) Q) : ∃ a, o = some a ∧ PostO K W (f a) Q := by
  cases o with
  | none => exact h.no.elim
  | some a => exact ⟨a, rfl, h⟩
theorem PostO.ite {c : Prop} [Decidable c] {o : Out AV} (h : PostO K W (if c then o else .no) Q) : c ∧ PostO K W o Q := by
  by_cases hc : c
  · rw [if_pos hc] at h; exact ⟨hc, h⟩
  · rw [if_neg hc] at h; exact h.no.elim
end
theorem Fit.log {i : Int} (h : Fit i) : i.natAbs.log2 < 8001 := by
  have h' : i.natAbs < 2 ^ 8000 := h
  by_cases hz : i.natAbs = 0
  · rw [hz]; decide
  · exact Nat.lt_of_lt_of_le ((Nat.log2_lt hz).mpr h') (by decide)
section
variable {X : Cx} {pins : List (Addr × Obj)} {σ : L2.St} {H : Hp} {s : Shared}
theorem op_addV {m : Bool} : OpR X (binaryOp .Add) (R2D X.K (binD m .add)) := by
  rintro pins s σ H x y v u Q I rx ry ⟨W, S, a, b, rfl, R, ra, rb, P⟩
  have lists : ∀ {l k : List AV} {p q : V}, (∃ p' xs, p = .ref p' ∧ W.H p' = some (.lst xs) ∧ RVs X.K W l xs) → (∃ p' xs, q = .ref p' ∧ W.H p' = some (.lst xs) ∧ RVs X.K W k xs) → RelV p v → RelV q u →
      l.length + k.length ≤ sizeLine ∧ PostO X.K W (mkL m (l ++ k) S) Q → wpAny (model X.prog X.w) X.A (binaryOp .Add v u) (EP X pins σ Q) X.xe s := by
    rintro l k p q ⟨p', xs, rfl, h1, r1⟩ ⟨q', ys, rfl, h2, r2⟩ rp rq ⟨hz, P⟩
    exact op_cat pins s σ W.H _ _ v u Q I rp rq ⟨p', q', xs, ys, rfl, rfl, h1, h2, by rw [← r1.len, ← r2.len]; exact hz, fun p hp => P.mk R (r1.append r2) hp⟩
  cases a with
  | int i =>
    cases b with
    | int j =>
      cases ra; cases rb
      exact op_add pins s σ W.H _ _ v u Q I rx ry ⟨i, j, rfl, rfl, P.val R (.int _)⟩
    | _ => exact P.no.elim
  | str i =>
    cases b with
    | str j =>
      cases ra; cases rb
      obtain ⟨hz, P⟩ := P.ite
      exact op_add_str pins s σ W.H _ _ v u Q I rx ry ⟨i, j, rfl, rfl, hz, P.val R (.str _)⟩
    | _ => exact P.no.elim
  | tup l =>
    cases b with
    | tup k =>
      obtain ⟨hz, P⟩ := P.ite
      obtain ⟨p, xs, rfl, h1, r1⟩ := ra.itT
      obtain ⟨q, ys, rfl, h2, r2⟩ := rb.itT
      refine op_catA pins s σ W.H _ _ v u Q I rx ry ⟨p, q, xs, ys, rfl, rfl, h1, h2, by rw [← r1.len, ← r2.len]; exact hz, fun e => ?_, fun _ e => ?_, fun _ _ p hp => P.tup R (r1.append r2) hp⟩
      · subst e
        cases r1
        exact P.val R rb
      · subst e
        cases r2
        rw [List.append_nil] at P
        exact P.val R ra
    | _ => exact P.no.elim
  | lst l =>
    have P' : PostO X.K W (optD (lstOf S b) fun k => if l.length + k.length ≤ sizeLine then mkL m (l ++ k) S else .no) Q := by cases b <;> exact P
    obtain ⟨k, e, P'⟩ := P'.opt
    exact lists (lst_it R ra rfl) (lst_it R rb e) rx ry P'.ite
  | loc i =>
    have P' : PostO X.K W (optD (lstOf S (.loc i)) fun l => optD (lstOf S b) fun k => if l.length + k.length ≤ sizeLine then mkL m (l ++ k) S else .no) Q := by cases b <;> exact P
    obtain ⟨l, e, P'⟩ := P'.opt
    obtain ⟨k, e2, P'⟩ := P'.opt
    exact lists (lst_it R ra e) (lst_it R rb e2) rx ry P'.ite
  | _ => cases b <;> exact P.no.elim
theorem op_subV {m : Bool} : OpR X (binaryOp .Sub) (R2D X.K (binD m .sub)) := by
  rintro pins s σ H x y v u Q I rx ry ⟨W, S, a, b, rfl, R, ra, rb, P⟩
  cases a with
  | int i =>
    cases b with
    | int j =>
      cases ra; cases rb
      exact op_sub pins s σ W.H _ _ v u Q I rx ry ⟨i, j, rfl, rfl, P.val R (.int _)⟩
    | _ => exact P.no.elim
  | _ => cases b <;> exact P.no.elim
theorem op_mulV {m : Bool} : OpR X (binaryOp .Mult) (R2D X.K (binD m .mul)) := by
  rintro pins s σ H x y v u Q I rx ry ⟨W, S, a, b, rfl, R, ra, rb, P⟩
  cases a with
  | int i =>
    cases b with
    | int j =>
      cases ra; cases rb
      obtain ⟨⟨h1, h2⟩, P⟩ := P.ite
      have hc : CMulW i j := by
        have := h1.log
        have := h2.log
        show i.natAbs.log2 + j.natAbs.log2 < 1000000
        omega
      exact op_mulW pins s σ W.H _ _ v u Q I rx ry ⟨i, j, rfl, rfl, hc, P.val R (.int _)⟩
    | _ => exact P.no.elim
  | lst l =>
    cases b with
    | int k =>
      obtain ⟨⟨h1, h2, h3⟩, P⟩ := P.ite
      obtain ⟨p, xs, rfl, e1, r1⟩ := lst_it R ra rfl
      cases rb
      refine op_rep pins s σ W.H _ _ v u Q I rx ry ⟨p, k, xs, rfl, rfl, e1, by omega, by omega, by rw [← r1.len]; exact h3, fun q hq => ?_⟩
      exact P.mk R (r1.flat k.toNat) hq
    | _ => exact P.no.elim
  | _ => cases b <;> exact P.no.elim
theorem op_fdivV {m : Bool} : OpR X (binaryOp .FloorDiv) (R2D X.K (binD m .fdiv)) := by
  rintro pins s σ H x y v u Q I rx ry ⟨W, S, a, b, rfl, R, ra, rb, P⟩
  cases a with
  | int i =>
    cases b with
    | int j =>
      cases ra; cases rb
      obtain ⟨⟨h1, h2⟩, P⟩ := P.ite
      exact op_fdivW pins s σ W.H _ _ v u Q I rx ry ⟨i, j, rfl, rfl, ⟨h1, Nat.lt_of_lt_of_le h2.log (by decide)⟩, P.val R (.int _)⟩
    | _ => exact P.no.elim
  | _ => cases b <;> exact P.no.elim
theorem op_modV {m : Bool} : OpR X (binaryOp .Mod) (R2D X.K (binD m .mod)) := by
  rintro pins s σ H x y v u Q I rx ry ⟨W, S, a, b, rfl, R, ra, rb, P⟩
  cases a with
  | int i =>
    cases b with
    | int j =>
      cases ra; cases rb
      obtain ⟨h1, P⟩ := P.ite
      exact op_mod pins s σ W.H _ _ v u Q I rx ry ⟨i, j, rfl, rfl, h1, P.val R (.int _)⟩
    | _ => exact P.no.elim
  | _ => cases b <;> exact P.no.elim
theorem op_powV {m : Bool} : OpR X (binaryOp .Pow) (R2D X.K (binD m .pow)) := by
  rintro pins s σ H x y v u Q I rx ry ⟨W, S, a, b, rfl, R, ra, rb, P⟩
  cases a with
  | int i =>
    cases b with
    | int j =>
      cases ra; cases rb
      obtain ⟨⟨h1, h2, h3⟩, P⟩ := P.ite
      exact op_pow pins s σ W.H _ _ v u Q I rx ry ⟨i, j, rfl, rfl, ⟨h1, by omega, by omega⟩, P.val R (.int _)⟩
    | _ => exact P.no.elim
  | _ => cases b <;> exact P.no.elim
theorem op_shlV {m : Bool} : OpR X (binaryOp .LShift) (R2D X.K (binD m .shl)) := by
  rintro pins s σ H x y v u Q I rx ry ⟨W, S, a, b, rfl, R, ra, rb, P⟩
  cases a with
  | int i =>
    cases b with
    | int j =>
      cases ra; cases rb
      obtain ⟨⟨h1, h2, h3⟩, P⟩ := P.ite
      exact op_shl pins s σ W.H _ _ v u Q I rx ry ⟨i, j, rfl, rfl, ⟨h1, by omega, by omega⟩, P.val R (.int _)⟩
    | _ => exact P.no.elim
  | _ => cases b <;> exact P.no.elim
theorem op_shrV {m : Bool} : OpR X (binaryOp .RShift) (R2D X.K (binD m .shr)) := by
  rintro pins s σ H x y v u Q I rx ry ⟨W, S, a, b, rfl, R, ra, rb, P⟩
  cases a with
  | int i =>
    cases b with
    | int j =>
      cases ra; cases rb
      obtain ⟨h1, P⟩ := P.ite
      exact op_shr pins s σ W.H _ _ v u Q I rx ry ⟨i, j, rfl, rfl, h1, P.val R (.int _)⟩
    | _ => exact P.no.elim
  | _ => cases b <;> exact P.no.elim
theorem op_bandV {m : Bool} : OpR X (binaryOp .BitAnd) (R2D X.K (binD m .band)) := by
  rintro pins s σ H x y v u Q I rx ry ⟨W, S, a, b, rfl, R, ra, rb, P⟩
  cases a with
  | int i =>
    cases b with
    | int j =>
      cases ra; cases rb
      obtain ⟨⟨h1, h2⟩, P⟩ := P.ite
      subst h2
      obtain ⟨n, rfl⟩ := Int.eq_ofNat_of_zero_le h1
      exact op_odd pins s σ W.H _ _ v u Q I rx ry ⟨n, rfl, rfl, P.val R (.int _)⟩
    | _ => exact P.no.elim
  | _ => cases b <;> exact P.no.elim
/-- the operators that are served -/
def bOk : BOp → Bool
  | .add => true
  | .sub => true
  | .mul => true
  | .fdiv => true
  | .mod => true
  | .pow => true
  | .shl => true
  | .shr => true
  | .band => true
theorem op_binV {m : Bool} (o : BOp) (h : bOk o = true) : OpR X (binaryOp (opB o)) (R2D X.K (binD m o)) := by
  cases o with
  | add => exact op_addV
  | sub => exact op_subV
  | mul => exact op_mulV
  | fdiv => exact op_fdivV
  | mod => exact op_modV
  | pow => exact op_powV
  | shl => exact op_shlV
  | shr => exact op_shrV
  | band => exact op_bandV

/-! comparisons -/
mutual
theorem dp_of {K : PySem.W.Frag} {W : Wd} : ∀ (k : Nat) {a : AV} {x : V}, dep k a = true → RV K W a x → Dp K W.H x a.toPy
  | k, .non, _, _, .non => .non
  | k, .bl _, _, _, .bl b => .bl b
  | k, .int _, _, _, .int i => .int i
  | k, .str _, _, _, .str x => .str x
  | k + 1, .tup l, _, h, .tup e s r => .tup (SqT.of e) (dps_of k (by simpa [dep] using h) r)
  | k + 1, .lst l, _, h, .lst e s r => .lst (SqL.of e) (dps_of k (by simpa [dep] using h) r)
  | 0, .tup l, _, h, _ => by simp [dep] at h
  | 0, .lst l, _, h, _ => by simp [dep] at h
  | 0, .ty _, _, h, _ => by simp [dep] at h
  | _ + 1, .ty _, _, h, _ => by simp [dep] at h
  | 0, .loc _, _, h, _ => by simp [dep] at h
  | _ + 1, .loc _, _, h, _ => by simp [dep] at h
  | 0, .scr _, _, h, _ => by simp [dep] at h
  | _ + 1, .scr _, _, h, _ => by simp [dep] at h
  | 0, .ktp _, _, h, _ => by simp [dep] at h
  | _ + 1, .ktp _, _, h, _ => by simp [dep] at h
  | 0, .ftp _, _, h, _ => by simp [dep] at h
  | _ + 1, .ftp _, _, h, _ => by simp [dep] at h
theorem dps_of {K : PySem.W.Frag} {W : Wd} : ∀ (k : Nat) {l : List AV} {xs : List V}, (∀ a, a ∈ l → dep k a = true) → RVs K W l xs → DpAll K W.H xs (toPys l)
  | _, [], _, _, .nil => .nil
  | k, a :: l, _, h, .cons r t => .cons (dp_of k (h a List.mem_cons_self) r) (dps_of k (fun b hb => h b (List.mem_cons_of_mem _ hb)) t)
end
/-- written out, a value is data of its kind -/
theorem dpF {K : PySem.W.Frag} {W : Wd} {S : Store} (R : Rep K W S) : ∀ (k : Nat) {a b : AV} {x : V} {j : Nat}, frz k 0 S a = some b → dep j b = true → RV K W a x → Dp K W.H x b.toPy := by
  have pure_ : ∀ {a : AV} {x : V} {j : Nat}, dep j a = true → RV K W a x → Dp K W.H x a.toPy := fun h r => dp_of _ h r
  intro k
  induction k with
  | zero =>
    intro a b x j e d r
    simp only [frz] at e
    split at e
    · cases e; exact pure_ d r
    · cases e
  | succ k ih =>
    intro a b x j e d r
    have lists : ∀ {l m : List AV} {xs : List V} {j : Nat}, l.mapM (frz k 0 S) = some m → (∀ c, c ∈ m → dep j c = true) → RVs K W l xs → DpAll K W.H xs (toPys m) := by
      intro l
      induction l with
      | nil =>
        intro m xs j e d r
        cases r
        have e' : m = [] := by simpa using e.symm
        subst e'
        exact .nil
      | cons c l ihl =>
        intro m xs j e d r
        cases r with
        | cons p t =>
          rw [List.mapM_cons] at e
          cases e1 : frz k 0 S c with
          | none => rw [e1] at e; cases e
          | some c' =>
            cases e2 : l.mapM (frz k 0 S) with
            | none => rw [e1, e2] at e; cases e
            | some l' =>
              rw [e1, e2] at e
              have e' : m = c' :: l' := by simpa using e.symm
              subst e'
              exact .cons (ih e1 (d c' List.mem_cons_self) p) (ihl e2 (fun z hz => d z (List.mem_cons_of_mem _ hz)) t)
    simp only [frz] at e
    split at e
    · cases e; exact pure_ d r
    · cases a with
      | tup l =>
        dsimp only at e
        cases e2 : l.mapM (frz k 0 S) with
        | none => rw [e2] at e; cases e
        | some l' =>
          rw [e2] at e
          cases e
          cases j with
          | zero => simp [dep] at d
          | succ j =>
            obtain ⟨p, xs, rfl, h1, r1⟩ := r.itT
            exact .tup h1 (lists e2 (by simpa [dep] using d) r1)
      | lst l =>
        dsimp only at e
        cases e2 : l.mapM (frz k 0 S) with
        | none => rw [e2] at e; cases e
        | some l' =>
          rw [e2] at e
          cases e
          cases j with
          | zero => simp [dep] at d
          | succ j =>
            obtain ⟨p, xs, rfl, h1, r1⟩ := lst_it R r rfl
            exact .lst (SqL.of h1) (lists e2 (by simpa [dep] using d) r1)
      | loc i =>
        simp only [Nat.not_lt_zero, if_false] at e
        cases e1 : S[i]? with
        | none => simp [e1] at e
        | some o =>
          cases o with
          | lst l =>
            simp only [e1] at e
            cases e2 : l.mapM (frz k 0 S) with
            | none => rw [e2] at e; cases e
            | some l' =>
              rw [e2] at e
              cases e
              cases j with
              | zero => simp [dep] at d
              | succ j =>
                obtain ⟨p, xs, rfl, h1, r1⟩ := lst_it R r (l := l) (by simp [lstOf, e1])
                exact .lst (SqL.of h1) (lists e2 (by simpa [dep] using d) r1)
          | _ => simp [e1] at e
      | ktp l => cases e
      | ftp l => cases e
      | _ => cases e; exact pure_ d r
mutual
theorem eqv_py : ∀ (k : Nat) (a b : AV) (j : Nat), dep k a = true → dep j b = true → PyData.eqv a.toPy b.toPy = eqv a b
  | _, .non, b, j, _, h => by cases b <;> first | rfl | (cases j <;> simp [dep] at h)
  | _, .bl x, b, j, _, h => by cases b <;> first | rfl | (cases j <;> simp [dep] at h)
  | _, .int x, b, j, _, h => by cases b <;> first | rfl | (cases j <;> simp [dep] at h)
  | _, .str x, b, j, _, h => by cases b <;> first | rfl | (cases j <;> simp [dep] at h)
  | k + 1, .tup l, b, j, h, h' => by
    cases b with
    | tup m =>
      cases j with
      | zero => simp [dep] at h'
      | succ j => exact eqvs_py k l m j (by simpa [dep] using h) (by simpa [dep] using h')
    | _ => first | rfl | (cases j <;> simp [dep] at h')
  | k + 1, .lst l, b, j, h, h' => by
    cases b with
    | lst m =>
      cases j with
      | zero => simp [dep] at h'
      | succ j => exact eqvs_py k l m j (by simpa [dep] using h) (by simpa [dep] using h')
    | _ => first | rfl | (cases j <;> simp [dep] at h')
  | 0, .tup l, _, _, h, _ => by simp [dep] at h
  | 0, .lst l, _, _, h, _ => by simp [dep] at h
  | k, .ty _, _, _, h, _ => by cases k <;> simp [dep] at h
  | k, .loc _, _, _, h, _ => by cases k <;> simp [dep] at h
  | k, .scr _, _, _, h, _ => by cases k <;> simp [dep] at h
  | k, .ktp _, _, _, h, _ => by cases k <;> simp [dep] at h
  | k, .ftp _, _, _, h, _ => by cases k <;> simp [dep] at h
theorem eqvs_py : ∀ (k : Nat) (l m : List AV) (j : Nat), (∀ a, a ∈ l → dep k a = true) → (∀ a, a ∈ m → dep j a = true) → PyData.eqvAll (toPys l) (toPys m) = eqvs l m
  | _, [], [], _, _, _ => rfl
  | _, [], _ :: _, _, _, _ => rfl
  | _, _ :: _, [], _, _, _ => rfl
  | k, a :: l, b :: m, j, h, h' => by
    have e1 := eqv_py k a b j (h a List.mem_cons_self) (h' b List.mem_cons_self)
    have e2 := eqvs_py k l m j (fun z hz => h z (List.mem_cons_of_mem _ hz)) (fun z hz => h' z (List.mem_cons_of_mem _ hz))
    show (PyData.eqv a.toPy b.toPy && PyData.eqvAll (toPys l) (toPys m)) = (eqv a b && eqvs l m)
    rw [e1, e2]
end
mutual
theorem dep_lay : ∀ (k : Nat) (a : AV), dep k a = true → a.toPy.canLay0 = true ∧ a.toPy.depth ≤ k
  | k, .non, _ => ⟨by simp [AV.toPy, PyData.canLay0], by simp [AV.toPy, PyData.depth]⟩
  | k, .bl _, _ => ⟨by simp [AV.toPy, PyData.canLay0], by simp [AV.toPy, PyData.depth]⟩
  | k, .int _, _ => ⟨by simp [AV.toPy, PyData.canLay0], by simp [AV.toPy, PyData.depth]⟩
  | k, .str x, h => ⟨by cases k <;> simpa [AV.toPy, PyData.canLay0, dep] using h, by simp [AV.toPy, PyData.depth]⟩
  | k + 1, .tup l, h => by
    obtain ⟨h1, h2⟩ := deps_lay k l (by simpa [dep] using h)
    exact ⟨by simpa [AV.toPy, PyData.canLay0] using h1, by simp only [AV.toPy, PyData.depth]; omega⟩
  | k + 1, .lst l, h => by
    obtain ⟨h1, h2⟩ := deps_lay k l (by simpa [dep] using h)
    exact ⟨by simpa [AV.toPy, PyData.canLay0] using h1, by simp only [AV.toPy, PyData.depth]; omega⟩
  | 0, .tup l, h => by simp [dep] at h
  | 0, .lst l, h => by simp [dep] at h
  | k, .ty _, h => by cases k <;> simp [dep] at h
  | k, .loc _, h => by cases k <;> simp [dep] at h
  | k, .scr _, h => by cases k <;> simp [dep] at h
  | k, .ktp _, h => by cases k <;> simp [dep] at h
  | k, .ftp _, h => by cases k <;> simp [dep] at h
theorem deps_lay : ∀ (k : Nat) (l : List AV), (∀ a, a ∈ l → dep k a = true) → PyData.canLayAll0 (toPys l) = true ∧ PyData.depthAll (toPys l) ≤ k
  | k, [], _ => ⟨by simp [toPys, PyData.canLayAll0], by simp [toPys, PyData.depthAll]⟩
  | k, a :: l, h => by
    obtain ⟨h1, h2⟩ := dep_lay k a (h a List.mem_cons_self)
    obtain ⟨h3, h4⟩ := deps_lay k l fun z hz => h z (List.mem_cons_of_mem _ hz)
    exact ⟨by simp [toPys, PyData.canLayAll0, h1, h3], by simp only [toPys, PyData.depthAll]; omega⟩
end
/-- == -/
theorem eqD_ok {W : Wd} {S : Store} {a b : AV} {x y : V} {c : Bool} (R : Rep X.K W S) (ra : RV X.K W a x) (rb : RV X.K W b y) (e : eqD S a b = some c) :
    ∃ d d', Dp X.K W.H x d ∧ Dp X.K W.H y d' ∧ SeqAt.shaped d = true ∧ SeqAt.shaped d' = true ∧ PyData.eqv d d' = c := by
  unfold eqD at e
  split at e
  · rename_i a' ea
    split at e
    · rename_i b' eb
      split at e
      · rename_i h
        have sh : ∀ {a : AV}, dep 8 a = true → SeqAt.shaped a.toPy = true := fun {a} h => by
          obtain ⟨h1, h2⟩ := dep_lay 8 a h
          unfold SeqAt.shaped
          rw [h1]
          simp; omega
        exact ⟨_, _, dpF R 4 ea h.1 ra, dpF R 4 eb h.2 rb, sh h.1, sh h.2, by rw [eqv_py 8 _ _ 8 h.1 h.2]; exact Option.some.inj e⟩
      · cases e
    · cases e
  · cases e
theorem flat_ok {W : Wd} {a : AV} {x : V} (h : flatA a = true) (r : RV X.K W a x) : flatV x = true := by
  cases r <;> first | rfl | cases h
theorem flats_ok {W : Wd} : ∀ {l : List AV} {xs : List V}, l.all flatA = true → RVs X.K W l xs → xs.all flatV = true
  | _, _, _, .nil => rfl
  | _, _, h, .cons p r => by
    rw [List.all_cons, Bool.and_eq_true] at h
    rw [List.all_cons, flat_ok h.1 p, flats_ok h.2 r]
    rfl
theorem eqv_eqV {W : Wd} {a b : AV} {x y : V} (h : flatA a = true) (h' : flatA b = true) (r : RV X.K W a x) (r' : RV X.K W b y) : eqV y x = eqv a b := by
  cases r <;> cases r' <;> first | (cases h; done) | (cases h'; done) | skip
  all_goals simp only [eqV, eqv]
  all_goals first | rfl | exact BEq.comm | skip
theorem any_ok {W : Wd} {a : AV} {x : V} (h : flatA a = true) (r : RV X.K W a x) : ∀ {l : List AV} {xs : List V}, l.all flatA = true → RVs X.K W l xs → inV x xs = l.any (eqv a)
  | _, _, _, .nil => rfl
  | _, _, h', .cons p t => by
    rw [List.all_cons, Bool.and_eq_true] at h'
    have ih := any_ok h r h'.2 t
    unfold inV at ih ⊢
    rw [List.any_cons, List.any_cons, ih, eqv_eqV h h'.1 r p]
end
end VI

set_option maxRecDepth 100000
set_option maxHeartbeats 1000000
/-! VP: min and sorted of tuples; an index from a place on; a count. -/
namespace VI
open PySem PySem.Spec PyProof.Rows L2 PySem.W
theorem toPys_map : ∀ l : List AV, toPys l = l.map AV.toPy
  | [] => rfl
  | a :: l => by show a.toPy :: toPys l = _; rw [toPys_map l]; rfl
mutual
theorem toPy_inj : ∀ (k : Nat) (a b : AV), dep k a = true → dep k b = true → a.toPy = b.toPy → a = b
  | k, .non, b, _, h, e => by cases b <;> first | rfl | (cases e; done) | (exfalso; cases k <;> simp [dep] at h)
  | k, .bl c, b, _, h, e => by cases b <;> first | (cases e; rfl) | (cases e; done) | (exfalso; cases k <;> simp [dep] at h)
  | k, .int c, b, _, h, e => by cases b <;> first | (cases e; rfl) | (cases e; done) | (exfalso; cases k <;> simp [dep] at h)
  | k, .str c, b, _, h, e => by cases b <;> first | (cases e; rfl) | (cases e; done) | (exfalso; cases k <;> simp [dep] at h)
  | k + 1, .tup l, b, g, h, e => by
    cases b with
    | tup m =>
      have e' : toPys l = toPys m := PyData.tuple.inj e
      rw [toPys_inj k l m (by simpa [dep] using g) (by simpa [dep] using h) e']
    | _ => first | (cases e; done) | (exfalso; simp [dep] at h)
  | k + 1, .lst l, b, g, h, e => by
    cases b with
    | lst m =>
      have e' : toPys l = toPys m := PyData.list.inj e
      rw [toPys_inj k l m (by simpa [dep] using g) (by simpa [dep] using h) e']
    | _ => first | (cases e; done) | (exfalso; simp [dep] at h)
  | 0, .tup l, _, g, _, _ => by simp [dep] at g
  | 0, .lst l, _, g, _, _ => by simp [dep] at g
  | 0, .ty _, _, g, _, _ => by simp [dep] at g
  | _ + 1, .ty _, _, g, _, _ => by simp [dep] at g
  | 0, .loc _, _, g, _, _ => by simp [dep] at g
  | _ + 1, .loc _, _, g, _, _ => by simp [dep] at g
  | 0, .scr _, _, g, _, _ => by simp [dep] at g
  | _ + 1, .scr _, _, g, _, _ => by simp [dep] at g
  | 0, .ktp _, _, g, _, _ => by simp [dep] at g
  | _ + 1, .ktp _, _, g, _, _ => by simp [dep] at g
  | 0, .ftp _, _, g, _, _ => by simp [dep] at g
  | _ + 1, .ftp _, _, g, _, _ => by simp [dep] at g
theorem toPys_inj : ∀ (k : Nat) (l m : List AV), (∀ a, a ∈ l → dep k a = true) → (∀ a, a ∈ m → dep k a = true) → toPys l = toPys m → l = m
  | _, [], [], _, _, _ => rfl
  | _, [], _ :: _, _, _, e => by cases e
  | _, _ :: _, [], _, _, e => by cases e
  | k, a :: l, b :: m, g, h, e => by
    have e1 : a.toPy = b.toPy := (List.cons.inj e).1
    have e2 : toPys l = toPys m := (List.cons.inj e).2
    rw [toPy_inj k a b (g a List.mem_cons_self) (h b List.mem_cons_self) e1, toPys_inj k l m (fun c q => g c (List.mem_cons_of_mem _ q)) (fun c q => h c (List.mem_cons_of_mem _ q)) e2]
end
mutual
theorem dep_le : ∀ (k : Nat) (a : AV), dep k a = true → a.toPy.depth ≤ k
  | _, .non, _ => by show PyData.depth .none ≤ _; simp [PyData.depth]
  | _, .bl _, _ => by show PyData.depth (.bool _) ≤ _; simp [PyData.depth]
  | _, .int _, _ => by show PyData.depth (.int _) ≤ _; simp [PyData.depth]
  | _, .str _, _ => by show PyData.depth (.str _) ≤ _; simp [PyData.depth]
  | k + 1, .tup l, h => by
    show PyData.depth (.tuple (toPys l)) ≤ _
    have := deps_le k l (by simpa [dep] using h)
    simp only [PyData.depth]; omega
  | k + 1, .lst l, h => by
    show PyData.depth (.list (toPys l)) ≤ _
    have := deps_le k l (by simpa [dep] using h)
    simp only [PyData.depth]; omega
  | 0, .tup l, h => by simp [dep] at h
  | 0, .lst l, h => by simp [dep] at h
  | 0, .ty _, h => by simp [dep] at h
  | _ + 1, .ty _, h => by simp [dep] at h
  | 0, .loc _, h => by simp [dep] at h
  | _ + 1, .loc _, h => by simp [dep] at h
  | 0, .scr _, h => by simp [dep] at h
  | _ + 1, .scr _, h => by simp [dep] at h
  | 0, .ktp _, h => by simp [dep] at h
  | _ + 1, .ktp _, h => by simp [dep] at h
  | 0, .ftp _, h => by simp [dep] at h
  | _ + 1, .ftp _, h => by simp [dep] at h
theorem deps_le : ∀ (k : Nat) (l : List AV), (∀ a, a ∈ l → dep k a = true) → PyData.depthAll (toPys l) ≤ k
  | _, [], _ => by simp [toPys, PyData.depthAll]
  | k, a :: l, h => by
    have h1 := dep_le k a (h a List.mem_cons_self)
    have h2 := deps_le k l fun c q => h c (List.mem_cons_of_mem _ q)
    simp only [toPys, PyData.depthAll]; omega
end
theorem likeT_iff {l : List AV} (h : likeT l = true) : (∀ a ∈ l, tupNE a = true ∧ dep 6 a = true) ∧ AllAlike (l.map AV.toPy) := by
  unfold likeT at h
  rw [Bool.and_eq_true, List.all_eq_true, List.all_eq_true] at h
  refine ⟨fun a ha => by simpa using h.1 a ha, fun d hd d' hd' => ?_⟩
  obtain ⟨a, ha, rfl⟩ := List.mem_map.mp hd
  obtain ⟨b, hb, rfl⟩ := List.mem_map.mp hd'
  exact (List.all_eq_true.mp (h.2 a ha)) b hb
theorem tupNE_py {a : AV} (h : tupNE a = true) : ∃ x r, a.toPy = .tuple (x :: r) := by
  cases a with
  | tup l =>
    cases l with
    | nil => cases h
    | cons x r => exact ⟨x.toPy, toPys r, rfl⟩
  | _ => cases h
theorem fold_toPy (a : AV) : ∀ l : List AV, (l.map AV.toPy).foldl (fun x y => if dataLt y x then y else x) a.toPy = (l.foldl (fun a y => if ltA y a = true then y else a) a).toPy
  | [] => rfl
  | b :: l => by
    rw [List.map_cons, List.foldl_cons, List.foldl_cons]
    have e : (if dataLt b.toPy a.toPy = true then b.toPy else a.toPy) = (if ltA b a = true then b else a).toPy := by
      unfold ltA
      split <;> rfl
    rw [e]
    exact fold_toPy _ l
theorem minA_mem {l : List AV} {r : AV} (h : minA l = some r) : r ∈ l := by
  cases l with
  | nil => cases h
  | cons a l =>
    have e := Option.some.inj h
    have gen : ∀ (m : List AV) (b : AV), (m.foldl (fun a y => if ltA y a = true then y else a) b) = b ∨ (m.foldl (fun a y => if ltA y a = true then y else a) b) ∈ m := by
      intro m
      induction m with
      | nil => intro b; exact .inl rfl
      | cons c m ih =>
        intro b
        rw [List.foldl_cons]
        rcases ih (if ltA c b = true then c else b) with q | q
        · rw [q]
          split
          · exact .inr List.mem_cons_self
          · exact .inl rfl
        · exact .inr (List.mem_cons_of_mem _ q)
    rcases gen l a with q | q
    · rw [← e, q]; exact List.mem_cons_self
    · rw [← e]; exact List.mem_cons_of_mem _ q
section
variable {X : Cx}
theorem likes_it {W : Wd} {S : Store} {Q : VK} {a : AV} {x : V} {f : List AV → Out AV} (R : Rep X.K W S) (ra : RV X.K W a x) (P : PostO X.K W (optD (lstOf S a) fun l => if likeT l = true then f l else .no) Q) :
    ∃ p xs l, x = .ref p ∧ W.H p = some (.lst xs) ∧ RVs X.K W l xs ∧ likeT l = true ∧ PostO X.K W (f l) Q := by
  obtain ⟨l, e, P⟩ := P.opt
  obtain ⟨h, P⟩ := P.ite
  obtain ⟨p, xs, rfl, h1, r⟩ := lst_it R ra e
  exact ⟨p, xs, l, rfl, h1, r, h, P⟩
/-- min(xs), tuples -/
theorem cr_minT (hc : X.calm = true) (hu : X.A.units + 20 < cLine) : CallR X (.builtin "min") (fun xs H Q => ∃ W S a x, xs = [x] ∧ W.H = H ∧ Rep X.K W S ∧ RV X.K W a x ∧ PostO X.K W (optD (lstOf S a) fun l => if likeT l = true then optD (minA l) fun r => .ok r S else .no) Q) := by
  rintro pins s σ H xs us Q I r ⟨W, S, a, x, rfl, rfl, R, ra, P⟩
  obtain ⟨p, xs, l, rfl, h1, rl, hl, P⟩ := likes_it R ra P
  obtain ⟨m, em, P2⟩ := P.opt
  clear P
  rw [Vals.ref1 r]
  obtain ⟨its, rv, pt, hz⟩ := I.list (SqL.of h1)
  obtain ⟨g1, g2⟩ := likeT_iff hl
  have hd : DpAll X.K W.H xs (toPys l) := dps_of 6 (fun c hc => (g1 c hc).2) rl
  obtain ⟨as, hr⟩ := Dp.readsAll I _ _ _ hd rv
  cases l with
  | nil => cases em
  | cons b l =>
    have hA : AlikeAll (b.toPy :: l.map AV.toPy) := ⟨fun d hd d' hd' => g2 d hd d' hd', fun d hd => by
      obtain ⟨c, hc, rfl⟩ := List.mem_map.mp (show d ∈ (b :: l).map AV.toPy from hd)
      obtain ⟨y, t, e⟩ := tupNE_py (g1 c hc).1
      rw [e]; simp⟩
    rw [toPys_map] at hr
    have hdp := deps_le 6 (b :: l) fun c hc => (g1 c hc).2
    rw [toPys_map] at hdp
    refine min_list_data (I.ok.hd hc) pt.isList (show ReadsAll s.heap its.toArray.toList (b.toPy :: l.map AV.toPy) as from hr) hA (by simp only [List.map_cons] at hdp; omega) fun i v h' tk bs hi hv hk => ?_
    -- which item it is
    have hi' : its[i]? = some v := by simpa using hi
    have hlen : its.length = xs.length := rv.length.symm
    have hil : i < xs.length := by rw [← hlen]; exact (List.getElem?_eq_some_iff.mp hi').1
    obtain ⟨c, ec, rc⟩ := rl.getV (List.getElem?_eq_getElem hil)
    have rcv : RelV xs[i] v := by
      have := rv.get (List.getElem?_eq_getElem hil)
      obtain ⟨u, e1, e2⟩ := this
      rw [hi'] at e1
      cases e1
      exact e2
    have hcm : c ∈ b :: l := List.mem_of_getElem? ec
    obtain ⟨cs, hcr⟩ := Dp.reads I _ _ _ (dp_of 6 (g1 c hcm).2 rc) rcv
    have e1 : minD b.toPy (l.map AV.toPy) = m.toPy := by
      unfold minD
      rw [fold_toPy]
      exact congrArg AV.toPy (Option.some.inj em)
    rw [e1] at hv
    have e2 : m.toPy = c.toPy := (PyProof.Rows.reads_det (fun b o q _ => hk b o q) hcr hv).1
    have e3 : m = c := toPy_inj 6 m c (g1 m (minA_mem em)).2 (g1 c hcm).2 e2
    subst e3
    exact ⟨_, W.H, I.kept (t' := tk) hk, rcv, P2.val R rc⟩
/-- sorted(xs), tuples -/
theorem cr_sortT {m : Bool} (hu : X.A.units + 20 < cLine) : CallR X (.builtin "sorted") (fun xs H Q => ∃ W S a x, xs = [x] ∧ W.H = H ∧ Rep X.K W S ∧ RV X.K W a x ∧ PostO X.K W (optD (lstOf S a) fun l => if likeT l = true then mkL m (l.mergeSort leA) S else .no) Q) := by
  rintro pins s σ H xs us Q I r ⟨W, S, a, x, rfl, rfl, R, ra, P⟩
  obtain ⟨p, xs, l, rfl, h1, rl, hl, P⟩ := likes_it R ra P
  rw [Vals.ref1 r]
  obtain ⟨its, rv, pt, hz⟩ := I.list (SqL.of h1)
  obtain ⟨g1, g2⟩ := likeT_iff hl
  have each : EachIs (fun v a => ∃ x, RelV x v ∧ RV X.K W a x) its l := by
    refine EachIs.of_zip (by rw [← rv.length, rl.len]) fun q hq => ?_
    obtain ⟨i, hi⟩ := List.mem_iff_getElem?.mp hq
    rw [List.getElem?_zip_eq_some] at hi
    obtain ⟨y, e1, e2⟩ := rl.get hi.2
    obtain ⟨u, e3, e4⟩ := rv.get e1
    rw [hi.1] at e3
    cases e3
    exact ⟨y, e4, e2⟩
  have eachR : EachIs (fun v a => ∃ as, Reads s.heap v (AV.toPy a) as) its l := by
    have hd : DpAll X.K W.H xs (toPys l) := dps_of 6 (fun c hc => (g1 c hc).2) rl
    obtain ⟨as, hr⟩ := Dp.readsAll I _ _ _ hd rv
    rw [toPys_map] at hr
    exact readsAll_each AV.toPy hr
  have hlen : l.length ≤ sizeLine := by rw [rl.len]; exact hz
  refine sorted_data pt.isList each eachR g2 (.inl fun d hd => ?_) hlen (fun b hb => ?_) fun out hol he => ?_
  · obtain ⟨c, hc, rfl⟩ := List.mem_map.mp hd
    exact tupNE_py (g1 c hc).1
  · have := dep_le 6 b (g1 b hb).2
    omega
  · obtain ⟨ep, he'⟩ := PyProof.Rows.sortedAll_at s.heap its out.toArray
    have e : ∃ ys, Vals ys out ∧ RVs X.K W (l.mergeSort leA) ys := by
      have gen : ∀ {vs : List Value} {as : List AV}, EachIs (fun v a => ∃ x, RelV x v ∧ RV X.K W a x) vs as → ∃ ys, Vals ys vs ∧ RVs X.K W as ys := by
        intro vs as h
        induction h with
        | nil => exact ⟨[], .nil, .nil⟩
        | cons h _ ih =>
          obtain ⟨x, k1, k2⟩ := h
          obtain ⟨ys, k3, k4⟩ := ih
          exact ⟨x :: ys, .cons k1 k3, .cons k2 k4⟩
      exact gen he
    obtain ⟨ys, v1, v2⟩ := e
    have hyl : ys.length ≤ sizeLine := by rw [v1.length, hol]; exact hlen
    exact ⟨.ref _, upd W.H (s.heap.objs.size + 1) (.lst ys), I.laid (t' := s.toks) (fun _ _ => PyProof.Rows.sortedAll_old) (Nat.le_succ _) ⟨hyl, out, ep, v1, he'⟩, rfl, P.mk R v2 (I.hok.fresh (Nat.le_succ _))⟩
/-- sum(t), a tuple of ints -/
theorem cr_sumT (hc : X.calm = true) : CallR X (.builtin "sum") (fun xs H Q => ∃ (a : Addr) (ns : List Int), xs = [.ref a] ∧ SqT X.K H a (ns.map V.int) ∧ Q (.int ns.sum) H) := by
  rintro pins s σ H xs us Q I r ⟨a, ns, rfl, hq, q⟩
  rw [Vals.ref1 r]
  obtain ⟨its, rv, pt, hz⟩ := I.tuple hq
  obtain ⟨zs, e⟩ := rv.ints.allInts.items
  have hn : numsOf (intItems zs).toList = ns := by rw [← e]; exact rv.ints.numsOf
  rw [nums_intItems] at hn
  have pt2 : s.heap.IsTuple a (intItems zs) := by rw [← e]; exact pt
  have al : a < s.heap.objs.size := by obtain ⟨o, g, _⟩ := pt2; exact Heap.lt_size g
  refine call_sum_walkG (wpAny_pyIter_tuple pt2 ⟨_, _, _, _, _, _, numAt zs, rfl, Walks.tuple (A := X.A.in1) (I.ok.hd hc) s.heap.objs.size a (Nat.ne_of_lt al) (intItems zs), ⟨⟨_, Heap.get?_push_size _ rfl, rfl, rfl⟩, pt2.at fun o g => Heap.get?_push_of_some _ g⟩, fun b hb => ?_, fun _ _ => intItems_at, fun h' tk t' hk => ?_⟩)
  · show b < (s.heap.push _).objs.size
    rw [Heap.size_push]
    rcases List.mem_cons.mp hb with rfl | hb
    · exact Nat.lt_succ_self _
    · rw [List.mem_singleton.mp hb]; exact Nat.lt_succ_of_lt al
  · refine ⟨.int ns.sum, H, I.kept (t' := tk) fun b o g => hk b o (fun hb => ?_) (Heap.get?_push_of_some _ g), ⟨t', ?_⟩, q⟩
    · rw [List.mem_singleton.mp hb] at g
      exact absurd (Heap.lt_size g) (Nat.lt_irrefl _)
    · have : (intItems zs).size = zs.size := by simp [intItems]
      rw [this, preSum_eq, List.take_of_length_le (by simp), hn]
/-- min(t), a tuple of ints -/
theorem cr_minI (hc : X.calm = true) (hu : X.A.units + 20 < cLine) : CallR X (.builtin "min") (fun xs H Q => ∃ (a : Addr) (ns : List Int) (m : Int), xs = [.ref a] ∧ SqT X.K H a (ns.map V.int) ∧ m ∈ ns ∧ (∀ y ∈ ns, m ≤ y) ∧ Q (.int m) H) := by
  rintro pins s σ H xs us Q I r ⟨a, ns, m, rfl, hq, h1, h2, q⟩
  rw [Vals.ref1 r]
  obtain ⟨its, rv, pt, hz⟩ := I.tuple hq
  have hd : DpAll X.K H (ns.map V.int) (ns.map PyData.int) := by
    clear hq rv hz h1 h2
    induction ns with
    | nil => exact .nil
    | cons n ns ih => exact .cons (.int n) ih
  obtain ⟨as, hr⟩ := Dp.readsAll I _ _ _ hd rv
  cases ns with
  | nil => cases h1
  | cons n ns =>
    have hA : AlikeAll (PyData.int n :: ns.map PyData.int) := ⟨fun d hd d' hd' => by
      obtain ⟨i, _, rfl⟩ := List.mem_map.mp (show d ∈ (n :: ns).map PyData.int from hd)
      obtain ⟨j, _, rfl⟩ := List.mem_map.mp (show d' ∈ (n :: ns).map PyData.int from hd')
      simp [alike], fun d hd => by
      obtain ⟨i, _, rfl⟩ := List.mem_map.mp (show d ∈ (n :: ns).map PyData.int from hd)
      simp⟩
    have hdp : PyData.depthAll (PyData.int n :: ns.map PyData.int) = 0 := depth_ints (n :: ns)
    refine min_tuple_data (I.ok.hd hc) (show s.heap.IsTuple a its.toArray from pt) (show ReadsAll s.heap its.toArray.toList (PyData.int n :: ns.map PyData.int) as from hr) hA (by rw [hdp]; omega) fun i v h' tk bs hi hv hk => ?_
    have gen : ∀ (l : List Int) (n : Int), minD (.int n) (l.map PyData.int) = .int (l.foldl (fun a y => if y < a then y else a) n) := by
      intro l
      induction l with
      | nil => intro n; rfl
      | cons y l ih =>
        intro n
        have e := ih (if y < n then y else n)
        unfold minD at e ⊢
        rw [List.map_cons, List.foldl_cons, List.foldl_cons, dataLt_int]
        by_cases h : y < n
        · rw [if_pos h] at e ⊢; rw [if_pos (by simpa using h)]; exact e
        · rw [if_neg h] at e ⊢; rw [if_neg (by simpa using h)]; exact e
    have low : ∀ (l : List Int) (n : Int), ((l.foldl (fun a y => if y < a then y else a) n) = n ∨ (l.foldl (fun a y => if y < a then y else a) n) ∈ l) ∧ (l.foldl (fun a y => if y < a then y else a) n) ≤ n ∧ ∀ z ∈ l, (l.foldl (fun a y => if y < a then y else a) n) ≤ z := by
      intro l
      induction l with
      | nil => intro n; exact ⟨.inl rfl, Int.le_refl _, by simp⟩
      | cons y l ih =>
        intro n
        rw [List.foldl_cons]
        by_cases hy : y < n
        · rw [if_pos hy]
          obtain ⟨k1, k2, k3⟩ := ih y
          refine ⟨.inr ?_, by omega, fun z hz => ?_⟩
          · rcases k1 with e | e
            · rw [e]; exact List.mem_cons_self
            · exact List.mem_cons_of_mem _ e
          · rcases List.mem_cons.mp hz with rfl | hz
            · exact k2
            · exact k3 z hz
        · rw [if_neg hy]
          obtain ⟨k1, k2, k3⟩ := ih n
          refine ⟨?_, by omega, fun z hz => ?_⟩
          · rcases k1 with e | e
            · exact .inl e
            · exact .inr (List.mem_cons_of_mem _ e)
          · rcases List.mem_cons.mp hz with rfl | hz
            · omega
            · exact k3 z hz
    rw [gen] at hv
    obtain ⟨k1, k2, k3⟩ := low ns n
    have e : ns.foldl (fun a y => if y < a then y else a) n = m := by
      have a1 : m ≤ ns.foldl (fun a y => if y < a then y else a) n := by
        rcases k1 with e | e
        · rw [e]; exact h2 n List.mem_cons_self
        · exact h2 _ (List.mem_cons_of_mem _ e)
      have a2 : ns.foldl (fun a y => if y < a then y else a) n ≤ m := by
        rcases List.mem_cons.mp h1 with rfl | h
        · exact k2
        · exact k3 m h
      omega
    rw [e] at hv
    cases hv
    exact ⟨.int m, H, I.kept (t' := tk) hk, ⟨_, rfl⟩, q⟩
/-! l.index(k, i) -/
theorem indexF_at (l : Addr) (its : Array Value) (n : Nat) (dd : Option Addr) (sl : Array (Option Value)) (x : Value) (e : Value → Bool) (i j : Nat) (t : Tok) (hj : j < its.size) (hij : i ≤ j) (hs : (j : Int) < 2 ^ 63 - 1) (hit : e its[j] = true) (hno : ∀ m (hm : m < its.size), i ≤ m → m < j → e its[m] = false) :
    Meets (Builtin.«list.index» ⟨[.ref l, x, .int i t], []⟩) (fun A R s => s.heap.get? l = some { cls := .type "list", dict := dd, data := .seq its n, slots := sl } ∧ (∀ y, y ∈ its → SeqAt.EqAt A.in1 s y x (e y)) ∧ R (.ok (.ret (.int j s.toks))) { s with toks := s.toks + 1 }) := by
  intro P w A R ⟨hp, g, d, tk, os⟩ ⟨hl, he, h⟩
  have z1 : ((fun i : Int => if i < 0 then max 0 (i + (its.size : Int)) else i) ((some (i : Int)).getD 0)) = ((i : Nat) : Int) := by
    show (if (i : Int) < 0 then _ else (i : Int)) = _
    rw [if_neg (by omega)]
  have z2 : ((fun i : Int => if i < 0 then max 0 (i + (its.size : Int)) else i) ((none : Option Int).getD (2 ^ 63 - 1))) = 2 ^ 63 - 1 := by simp
  wp_walk using AutoSeq1.wpAny_loadPart' hl
  rw [z1, z2]
  refine ⟨plainId_quiet MeetsSeq.plain_index_loop _, codeAny_builtin MeetsSeq.entry_index_loop ?_⟩
  rw [Around.under_plainId MeetsSeq.plain_index_loop _]
  exact SeqAt.index_loopAt l its n dd sl x e _ j hj hs hit _ i rfl hij hno P w A R _ ⟨hl, he, h⟩
theorem lay_ints : ∀ ns : List Int, PyData.canLayAll0 (ns.map PyData.int) = true
  | [] => by simp [PyData.canLayAll0]
  | n :: ns => by simp [PyData.canLayAll0, PyData.canLay0, lay_ints ns]
theorem ints_dp {K : PySem.W.Frag} {H : Hp} : ∀ ns : List Int, DpAll K H (ns.map V.int) (ns.map PyData.int)
  | [] => .nil
  | n :: ns => .cons (.int n) (ints_dp ns)
theorem mt_indexF (hu : X.A.units + 65 < cLine) : MtR X "list.index" (fun x xs H Q => ∃ (a : Addr) (ns : List Int) (k : Int) (i : Nat), x = V.ref a ∧ xs = [.int k, .int i] ∧ SqL X.K H a (ns.map V.int) ∧ i ≤ 1000000 ∧ k ∈ ns.drop i ∧ Q (.int (i + (ns.drop i).idxOf k : Nat)) H) := by
  rintro pins s σ H x xs v us Q I rx rs ⟨a, ns, k, i, rfl, rfl, hq, hi, hk, q⟩
  cases rx
  cases rs with
  | cons r1 rt =>
    cases rt with
    | cons r2 rt =>
      cases rt
      obtain ⟨t1, rfl⟩ := r1
      obtain ⟨t2, rfl⟩ := r2
      obtain ⟨its, rv, ⟨⟨cls, dd, dat, sls⟩, n, ho, hc, hdn, hdt⟩, hz⟩ := I.list hq
      simp only at hc hdt
      subst hc hdt
      obtain ⟨as, hr⟩ := Dp.readsAll I _ _ _ (ints_dp ns) rv
      have hlen : its.length = ns.length := by simpa using rv.length.symm
      have hL := List.idxOf_lt_length_of_mem hk
      rw [List.length_drop] at hL
      have hsl := sizeLine_eq
      rw [List.length_map] at hz
      have at_ : ∀ (m : Nat) (hm : m < its.toArray.size), SeqAt.readOf s.heap its.toArray[m] = .int (ns[m]'(by simp at hm; omega)) := by
        intro m hm
        have := SeqAt.readsAll_map (ns.map PyData.int) its as (lay_ints ns) hr
        have h2 : m < its.length := by simpa using hm
        have h3 : (its.map (SeqAt.readOf s.heap))[m]? = (ns.map PyData.int)[m]? := by rw [this]
        rw [List.getElem?_map, List.getElem?_map, List.getElem?_eq_getElem h2, List.getElem?_eq_getElem (by omega)] at h3
        simpa using h3
      have hj : i + (ns.drop i).idxOf k < its.toArray.size := by simp; omega
      refine call_meets PySem.F.slot_list_index ⟨_, ho, rfl⟩ PySem.F.entry_list_index (PySem.F.args_list_index_3 _ _ _)
        (indexF_at a its.toArray n dd sls (.int k t1) (fun u => PyData.eqv (SeqAt.readOf s.heap u) (.int k)) i (i + (ns.drop i).idxOf k) t2 hj (Nat.le_add_right _ _) (by omega) ?_ ?_) ⟨ho, SeqAt.items_eqAt (vs := its.toArray) (show ReadsAll s.heap its.toArray.toList (ns.map PyData.int) as from hr) (Reads.int k t1) (lay_ints ns) (by simp [PyData.canLay0]) ?_, ?_⟩
      · show PyData.eqv (SeqAt.readOf s.heap its.toArray[i + (ns.drop i).idxOf k]) _ = true
        rw [at_ _ hj]
        have e1 : (ns.drop i)[(ns.drop i).idxOf k]'(by rw [List.length_drop]; omega) = k := List.getElem_idxOf _
        rw [List.getElem_drop] at e1
        rw [e1]
        simp [PyData.eqv]
      · intro m hm h1 h2
        show PyData.eqv (SeqAt.readOf s.heap its.toArray[m]) _ = false
        rw [at_ m hm]
        have h3 : m - i < (ns.drop i).idxOf k := by omega
        have h4 := List.not_of_lt_findIdx (p := (· == k)) (xs := ns.drop i) (i := m - i) h3
        have h5 : (ns.drop i)[m - i]'(by rw [List.length_drop]; omega) = ns[m]'(by simp at hm; omega) := by
          rw [List.getElem_drop]
          congr 1
          omega
        rw [h5] at h4
        simpa [PyData.eqv] using h4
      · have : PyData.depthAll (ns.map PyData.int) = 0 := depth_ints ns
        rw [this]
        omega
      · exact ⟨.int _, H, I.tok _, ⟨_, rfl⟩, q⟩
end
end VI

set_option maxRecDepth 100000
set_option maxHeartbeats 1000000
/-! VI4: comparisons, places, slices, calls of what is built in. -/
namespace VI
open PySem PySem.Spec PyProof.Rows L2
section
variable {X : Cx} {pins : List (Addr × Obj)} {σ : L2.St} {H : Hp} {s : Shared}
theorem outB_ok {K : PySem.W.Frag} {W : Wd} {S : Store} {Q : VK} {o : Option Bool} (P : PostO K W (outB o S) Q) : ∃ b, o = some b ∧ PostO K W (.ok (.bl b) S) Q := by
  cases o with
  | none => exact P.no.elim
  | some b => exact ⟨b, rfl, P⟩
theorem hasKey_some {κ : Type} [DecidableEq κ] (k : κ) (xs : List (κ × V)) : (valV xs k).isSome = xs.any fun p => decide (p.1 = k) := (valV_any k xs).symm
theorem keyOf_ok {K : PySem.W.Frag} {W : Wd} {a : AV} {x : V} {k : Key} (e : keyOf a = some k) (r : RV K W a x) : x = kV k := by
  cases a with
  | int i => cases e; cases r; rfl
  | str i => cases e; cases r; rfl
  | _ => cases e
theorem keysOf_ok' {K : PySem.W.Frag} {W : Wd} : ∀ {l : List AV} {xs : List V} {ks : List Key}, l.mapM keyOf = some ks → RVs K W l xs → xs = ks.map kV
  | [], _, ks, e, .nil => by
    have e' : ks = [] := by simpa using e.symm
    rw [e']; rfl
  | a :: l, _, ks, e, .cons p t => by
    rw [List.mapM_cons] at e
    cases e1 : keyOf a with
    | none => rw [e1] at e; cases e
    | some k =>
      cases e2 : l.mapM keyOf with
      | none => rw [e1, e2] at e; cases e
      | some r =>
        rw [e1, e2] at e
        have e' : ks = k :: r := by simpa using e.symm
        subst e'
        rw [keyOf_ok e1 p, keysOf_ok' e2 t]; rfl
/-- «in», by what the right side is -/
theorem in_ok {neg : Bool} {op : CmpOp} (hop : op = if neg then .NotIn else .In) (hu : X.A.units + 1 < cLine) {W : Wd} {S : Store} {a b : AV} {x y : V} {v u : Value} {c : Bool} {Q : VK} (I : Inv X pins σ W.H s) (R : Rep X.K W S) (ra : RV X.K W a x) (rb : RV X.K W b y)
    (rx : RelV x v) (ry : RelV y u) (e : inD S a b = some c) (q : Q (.bl (if neg then !c else c)) W.H) : wpAny (model X.prog X.w) X.A (compareOp op v u) (EP X pins σ Q) X.xe s := by
  subst hop
  have seq : ∀ {l : List AV}, (∃ p xs, y = .ref p ∧ (SqL X.K W.H p xs ∨ SqT X.K W.H p xs) ∧ RVs X.K W l xs) → (if flatA a = true ∧ l.all flatA = true then some (l.any (eqv a)) else none) = some c →
      wpAny (model X.prog X.w) X.A (compareOp (if neg then .NotIn else .In) v u) (EP X pins σ Q) X.xe s := by
    rintro l ⟨p, xs, rfl, h, r⟩ e
    split at e
    · rename_i hf
      have e' : inV x xs = c := by rw [any_ok hf.1 ra hf.2 r]; exact Option.some.inj e
      subst e'
      cases neg with
      | true => exact op_notIn_seq pins s σ W.H _ _ v u Q I rx ry ⟨p, xs, rfl, h, flat_ok hf.1 ra, flats_ok hf.2 r, q⟩
      | false => exact op_in_seq pins s σ W.H _ _ v u Q I rx ry ⟨p, xs, rfl, h, flat_ok hf.1 ra, flats_ok hf.2 r, q⟩
    · cases e
  cases b with
  | tup l => exact seq (items_it R rb rfl) e
  | ktp l => exact seq (items_it R rb rfl) e
  | ftp l => exact seq (items_it R rb rfl) e
  | lst l => exact seq (items_it R rb rfl) e
  | loc i =>
    simp only [inD] at e
    cases e1 : S[i]? with
    | none => simp [e1] at e
    | some o =>
      simp only [e1] at e
      cases o with
      | lst l => exact seq (items_it R rb (by simp [itemsOf, e1])) e
      | dct lk l =>
        dsimp only at e
        cases e2 : keyOf a with
        | none => rw [e2] at e; cases e
        | some k =>
          rw [e2] at e
          have e' : hasKey k l = c := Option.some.inj e
          have ex := keyOf_ok e2 ra
          subst ex
          cases rb with
          | loc hi =>
            obtain ⟨xs, g, rk⟩ : ∃ xs, DGet W.H (W.φ i) (kV k) (valV xs k) ∧ RKs X.K W l xs := by
              cases lk with
              | false => obtain ⟨xs, h1, h2⟩ := R.obj i _ e1; exact ⟨xs, DGet.k h1, h2⟩
              | true => obtain ⟨_, xs, o, h1, h2⟩ := R.obj i _ e1; exact ⟨xs, .inl ⟨xs, k, .inr ⟨o, h1⟩, rfl, rfl⟩, h2⟩
            obtain rfl : u = Value.ref (W.φ i) := ry
            have hc : (valV xs k).isSome = c := by rw [hasKey_some, rk.hasK, e']
            cases neg with
            | true => exact d_notIn hu I g rx fun s3 I3 => ⟨.bl _, W.H, I3, rfl, by rw [hc]; exact q⟩
            | false => exact d_in hu I g rx fun s3 I3 => ⟨.bl _, W.H, I3, rfl, by rw [hc]; exact q⟩
      | dcT lk l =>
        dsimp only at e
        cases e2 : keysOf a with
        | none => rw [e2] at e; cases e
        | some k =>
          rw [e2] at e
          have e' : hasKey k l = c := Option.some.inj e
          cases a with
          | tup m =>
            cases ra with
            | tup h1 h2 r =>
              have ek := keysOf_ok' (l := m) e2 r
              subst ek
              cases rb with
              | loc hi =>
                obtain ⟨xs, g, rk⟩ : ∃ xs, DGet W.H (W.φ i) (.ref _) (valV xs k) ∧ RKs X.K W l xs := by
                  cases lk with
                  | false => obtain ⟨xs, h3, h4⟩ := R.obj i _ e1; exact ⟨xs, DGet.t h3 h1, h4⟩
                  | true => obtain ⟨_, xs, o, h3, h4⟩ := R.obj i _ e1; exact ⟨xs, .inr ⟨xs, k, _, .inr ⟨o, h3⟩, rfl, h1, rfl⟩, h4⟩
                obtain rfl : u = Value.ref (W.φ i) := ry
                have hc : (valV xs k).isSome = c := by rw [hasKey_some, rk.hasK, e']
                cases neg with
                | true => exact d_notIn hu I g rx fun s3 I3 => ⟨.bl _, W.H, I3, rfl, by rw [hc]; exact q⟩
                | false => exact d_in hu I g rx fun s3 I3 => ⟨.bl _, W.H, I3, rfl, by rw [hc]; exact q⟩
          | _ => simp [keysOf] at e2
      | _ => cases e
  | _ => cases e
theorem op_cmpV (hu : X.A.units + 64 < cLine) (o : COp) : OpR X (compareOp (opC o)) (R2D X.K fun a b S => outB (cmpD o a b S) S) := by
  rintro pins s σ H x y v u Q I rx ry ⟨W, S, a, b, rfl, R, ra, rb, P⟩
  obtain ⟨c, e, P⟩ := outB_ok P
  have q : Q (.bl c) W.H := P.val R (.bl c)
  have hu1 : X.A.units + 1 < cLine := by omega
  have cmpI : ∀ {p : Int → Int → Bool} {op : CmpOp}, OpR X (compareOp op) (rI0 fun i j => .bl (p i j)) → (∀ i j, a = .int i → b = .int j → p i j = c) → (∃ i j, a = .int i ∧ b = .int j) → wpAny (model X.prog X.w) X.A (compareOp op v u) (EP X pins σ Q) X.xe s := by
    rintro p op ho hp ⟨i, j, rfl, rfl⟩
    cases ra; cases rb
    refine ho pins s σ W.H _ _ v u Q I rx ry ⟨i, j, rfl, rfl, ?_⟩
    show Q (.bl (p i j)) W.H
    rw [hp i j rfl rfl]; exact q
  cases o with
  | eq =>
    obtain ⟨d, d', h1, h2, h3, h4, h5⟩ := eqD_ok R ra rb e
    exact op_eqD hu pins s σ W.H _ _ v u Q I rx ry ⟨d, d', h1, h2, h3, h4, by rw [h5]; exact q⟩
  | ne =>
    have e : (eqD S a b).map (!·) = some c := e
    cases e1 : eqD S a b with
    | none => rw [e1] at e; cases e
    | some c' =>
      rw [e1] at e
      have e : (!c') = c := Option.some.inj e
      obtain ⟨d, d', h1, h2, h3, h4, h5⟩ := eqD_ok R ra rb e1
      exact op_neD hu pins s σ W.H _ _ v u Q I rx ry ⟨d, d', h1, h2, h3, h4, by rw [h5, e]; exact q⟩
  | lt =>
    refine cmpI op_lt (fun i j e1 e2 => ?_) ?_
    · subst e1 e2; exact Option.some.inj e
    · cases a with
      | int i => cases b with
        | int j => exact ⟨i, j, rfl, rfl⟩
        | _ => cases e
      | _ => cases b <;> cases e
  | le =>
    refine cmpI op_le (fun i j e1 e2 => ?_) ?_
    · subst e1 e2; exact Option.some.inj e
    · cases a with
      | int i => cases b with
        | int j => exact ⟨i, j, rfl, rfl⟩
        | _ => cases e
      | _ => cases b <;> cases e
  | gt =>
    refine cmpI op_gt (fun i j e1 e2 => ?_) ?_
    · subst e1 e2; exact Option.some.inj e
    · cases a with
      | int i => cases b with
        | int j => exact ⟨i, j, rfl, rfl⟩
        | _ => cases e
      | _ => cases b <;> cases e
  | ge =>
    refine cmpI op_ge (fun i j e1 e2 => ?_) ?_
    · subst e1 e2; exact Option.some.inj e
    · cases a with
      | int i => cases b with
        | int j => exact ⟨i, j, rfl, rfl⟩
        | _ => cases e
      | _ => cases b <;> cases e
  | is =>
    cases b with
    | non =>
      cases rb
      refine op_isN pins s σ W.H _ _ v u Q I rx ry ⟨rfl, ?_⟩
      have : decide (x = V.non) = c := by
        cases ra <;> first | (have e' := Option.some.inj e; subst e'; rfl) | (have e' := Option.some.inj e; subst e'; exact decide_eq_false (fun z => nomatch z))
      rw [this]; exact q
    | bl j =>
      cases a with
      | bl i =>
        have e1 : decide (i = j) = c := Option.some.inj e
        cases ra
        cases rb
        cases (show v = Value.bool i from rx)
        cases (show u = Value.bool j from ry)
        by_cases ej : i = j
        · subst ej
          exact wpAny_is_self rfl ⟨.bl true, W.H, I, rfl, by rw [← e1] at q; simpa using q⟩
        · exact wpAny_is_other rfl (fun z => ej (Value.bool.inj z)) ⟨.bl false, W.H, I, rfl, by rw [← e1] at q; simpa [ej] using q⟩
      | _ => cases e
    | _ => cases a <;> cases e
  | isn =>
    cases b with
    | non =>
      cases rb
      refine op_notN pins s σ W.H _ _ v u Q I rx ry ⟨rfl, ?_⟩
      have : (!decide (x = V.non)) = c := by
        cases ra <;> first | (have e' := Option.some.inj e; subst e'; rfl) | (have e' := Option.some.inj e; subst e'; rw [decide_eq_false (fun z => nomatch z)]; rfl)
      rw [this]; exact q
    | bl j =>
      cases a with
      | bl i =>
        have e1 : (!decide (i = j)) = c := Option.some.inj e
        cases ra
        cases rb
        cases (show v = Value.bool i from rx)
        cases (show u = Value.bool j from ry)
        by_cases ej : i = j
        · subst ej
          exact wpAny_isNot_self rfl ⟨.bl false, W.H, I, rfl, by rw [← e1] at q; simpa using q⟩
        · exact wpAny_isNot_other rfl (fun z => ej (Value.bool.inj z)) ⟨.bl true, W.H, I, rfl, by rw [← e1] at q; simpa [ej] using q⟩
      | _ => cases e
    | _ => cases a <;> cases e
  | isin => exact in_ok (neg := false) rfl hu1 I R ra rb rx ry e q
  | nin =>
    have e : (inD S a b).map (!·) = some c := e
    cases e1 : inD S a b with
    | none => rw [e1] at e; cases e
    | some c' =>
      rw [e1] at e
      have e : (!c') = c := Option.some.inj e
      refine in_ok (neg := true) rfl hu1 I R ra rb rx ry e1 ?_
      simp only [if_true]
      rw [e]; exact q
/-! places -/
theorem atI_ok {K : PySem.W.Frag} {W : Wd} {l : List AV} {xs : List V} {k : Int} {a : AV} (r : RVs K W l xs) (e : atI l k = some a) : ∃ x, atI xs k = some x ∧ RV K W a x := by
  unfold atI at e ⊢
  rw [← r.len]
  cases h : ixN l.length k with
  | none => rw [h] at e; cases e
  | some j =>
    rw [h] at e
    exact r.get e
theorem dget_tail {pins : List (Addr × Obj)} {σ : L2.St} {H : Hp} {s : Shared} (hu : X.A.units + 1 < cLine) {i : Expr} (hs : PlainIx i) {va : Expr} {a : Addr} {y v : V} {u : Value} {Q : VK} (I : Inv X pins σ H s) (g : DGet H a y (some v)) (ry : RelV y u) (q : Q v H) :
    wpAny (model X.prog X.w) X.A (subscriptTail va i (.ref a) u) (EP X pins σ Q) X.xe s :=
  tail_any (dict_typeIs I g) PySem.F.slot_dict_getitem.lookup (d_getItem hu I g ry fun w' s3 I3 rw' => ⟨v, H, I3, rw', q⟩) (hs _ _)
theorem op_ixV (hu : X.A.units + 1 < cLine) : IxR X (R2D X.K ixD) := by
  rintro value slice pins s σ H x y v u Q I rx ry ⟨W, S, a, b, rfl, R, ra, rb, P⟩ hs
  have seq : ∀ {l : List AV} {k : Int}, (∃ p xs, x = .ref p ∧ (SqL X.K W.H p xs ∨ SqT X.K W.H p xs) ∧ RVs X.K W l xs) → y = .int k → PostO X.K W (optD (atI l k) fun v => .ok v S) Q → wpAny (model X.prog X.w) X.A (subscriptTail value slice v u) (EP X pins σ Q) X.xe s := by
    rintro l k ⟨p, xs, rfl, h, r⟩ rfl P
    obtain ⟨c, e, P⟩ := P.opt
    obtain ⟨z, h1, h2⟩ := atI_ok r e
    rcases h with h | h
    · exact ix_list value slice pins s σ W.H _ _ v u Q I rx ry ⟨p, xs, k, z, rfl, rfl, h, h1, P.val R h2⟩ hs
    · exact ix_tup value slice pins s σ W.H _ _ v u Q I rx ry ⟨p, xs, k, z, rfl, rfl, h, h1, P.val R h2⟩ hs
  have dic : ∀ {i : Nat} {lk : Bool} {l : List (Key × AV)} {k : Key} {b : AV}, a = .loc i → S[i]? = some (.dct lk l) → keyOf b = some k → RV X.K W b y → PostO X.K W (optD (lookK k l) fun v => .ok v S) Q → wpAny (model X.prog X.w) X.A (subscriptTail value slice v u) (EP X pins σ Q) X.xe s := by
    rintro i lk l k b rfl e1 e2 rb P
    obtain ⟨c, e, P⟩ := P.opt
    have ey := keyOf_ok e2 rb
    subst ey
    cases ra with
    | loc hi =>
      obtain ⟨xs, h1, rk⟩ : ∃ xs, Rd W.H (W.φ i) (.dK xs) ∧ RKs X.K W l xs := by
        cases lk with
        | false => obtain ⟨xs, h1, h2⟩ := R.obj i _ e1; exact ⟨xs, .inl h1, h2⟩
        | true => obtain ⟨_, xs, o, h1, h2⟩ := R.obj i _ e1; exact ⟨xs, .inr ⟨o, h1⟩, h2⟩
      obtain ⟨z, h2, h3⟩ := rk.look k e
      obtain rfl : v = Value.ref (W.φ i) := rx
      have g : DGet W.H (W.φ i) (kV k) (some z) := .inl ⟨xs, k, h1, rfl, h2.symm⟩
      exact tail_any (dict_typeIs I g) PySem.F.slot_dict_getitem.lookup (d_getItem hu I g ry fun w' s3 I3 rw' => ⟨z, W.H, I3, rw', P.val R h3⟩) hs
  cases b with
  | int k =>
    cases rb
    cases a with
    | loc i =>
      cases e1 : S[i]? with
      | none => simp only [ixD, e1] at P; exact P.no.elim
      | some o =>
        cases o with
        | lst l => simp only [ixD, e1] at P; exact seq (items_it R ra (l := l) (by simp [itemsOf, e1])) rfl P
        | dct lk l => simp only [ixD, e1] at P; exact dic rfl e1 rfl (.int k) P
        | _ => simp only [ixD, e1] at P; exact P.no.elim
    | str z =>
      cases ra
      obtain ⟨hz, P⟩ := P.ite
      obtain ⟨c, e, P⟩ := P.opt
      exact ix_str value slice pins s σ W.H _ _ v u Q I rx ry ⟨z, k, c, rfl, rfl, hz, e, P.val R (.str _)⟩ hs
    | tup l => exact seq (items_it R ra rfl) rfl P
    | lst l => exact seq (items_it R ra rfl) rfl P
    | scr l => exact seq (items_it R ra rfl) rfl P
    | ktp l => exact seq (items_it R ra rfl) rfl P
    | ftp l => exact seq (items_it R ra rfl) rfl P
    | _ => exact P.no.elim
  | str z =>
    cases a with
    | loc i =>
      cases e1 : S[i]? with
      | none => simp only [ixD, e1] at P; exact P.no.elim
      | some o =>
        cases o with
        | dct lk l => simp only [ixD, e1] at P; exact dic rfl e1 rfl rb P
        | _ => simp only [ixD, e1] at P; exact P.no.elim
    | _ => exact P.no.elim
  | _ => cases a <;> exact P.no.elim
/-- cut: the same of both -/
theorem cut_ok {K : PySem.W.Frag} {W : Wd} {l : List AV} {xs : List V} (r : RVs K W l xs) (lo hi : Option Int) : RVs K W (cutA l lo hi) (cutV xs lo hi) := by
  unfold cutA cutV
  rw [← r.len]
  exact (r.drop _).take _
theorem cutA_whole {l : List AV} {lo hi : Option Int} (h : HT.sIx l.length 0 lo = 0 ∧ HT.sIx l.length l.length hi = l.length) : cutA l lo hi = l := by
  unfold cutA
  rw [h.1, h.2]
  simp
def RSl (K : PySem.W.Frag) (m : Bool) : V → Option Int → Option Int → Hp → VK → Prop := fun x lo hi H Q => ∃ W S a, W.H = H ∧ Rep K W S ∧ RV K W a x ∧ PostO K W (cutD m a lo hi S) Q
theorem sl_V {m : Bool} : SlR X (RSl X.K m) := by
  rintro pins s σ H x v vl vu lo hi sl Q I rx hs pl pu ⟨W, S, a, rfl, R, ra, P⟩
  have lists : PostO X.K W (optD (lstOf S a) fun l => mkL m (cutA l lo hi) S) Q → ∃ T id, typeLookup (.type T) "__getitem__" = pure (some (.builtin id)) ∧ s.TypeIs v T ∧ wpAny (model X.prog X.w) X.A (getItem v (.ref sl)) (EP X pins σ Q) X.xe s := by
    intro P
    obtain ⟨l, e, P⟩ := P.opt
    obtain ⟨p, xs, rfl, h1, r1⟩ := lst_it R ra e
    exact sl_list pins s σ W.H _ v vl vu lo hi sl Q I rx hs pl pu ⟨p, xs, rfl, SqL.of h1, fun q hq => P.mk R (cut_ok r1 lo hi) hq⟩
  cases a with
  | tup l =>
    obtain ⟨p, xs, rfl, h1, r1⟩ := ra.itT
    refine sl_tupA pins s σ W.H _ v vl vu lo hi sl Q I rx hs pl pu ⟨p, xs, rfl, h1, fun hw => ?_, fun _ q hq => P.tup R (cut_ok r1 lo hi) hq⟩
    rw [← r1.len] at hw
    have P : PostO X.K W (.ok (.tup (cutA l lo hi)) S) Q := P
    rw [cutA_whole hw] at P
    exact P.val R ra
  | lst l => exact lists P
  | loc i => exact lists P
  | _ => exact P.no.elim

/-! calls of what is built in -/
theorem sortI_perm : ∀ l : List Int, (sortI l).Perm l
  | [] => .nil
  | x :: l => by
    have ins : ∀ (x : Int) (l : List Int), (insI x l).Perm (x :: l) := by
      intro x l
      induction l with
      | nil => exact .refl _
      | cons y l ih =>
        unfold insI
        split
        · exact .refl _
        · exact (List.Perm.cons y ih).trans (List.Perm.swap x y l)
    exact (ins x _).trans (List.Perm.cons x (sortI_perm l))
theorem sortI_pair : ∀ l : List Int, (sortI l).Pairwise (· ≤ ·)
  | [] => .nil
  | x :: l => by
    have ins : ∀ (x : Int) (l : List Int), l.Pairwise (· ≤ ·) → (insI x l).Pairwise (· ≤ ·) := by
      intro x l
      induction l with
      | nil => intro _; simp [insI]
      | cons y l ih =>
        intro h
        unfold insI
        split
        · rename_i hxy
          refine List.Pairwise.cons (fun z hz => ?_) h
          rcases List.mem_cons.mp hz with rfl | hz
          · exact hxy
          · exact Int.le_trans hxy (List.rel_of_pairwise_cons h hz)
        · rename_i hxy
          refine List.Pairwise.cons (fun z hz => ?_) (ih h.of_cons)
          have hm : ∀ (x : Int) (l : List Int) z, z ∈ insI x l → z = x ∨ z ∈ l := by
            intro x l
            induction l with
            | nil => intro z hz; simpa [insI] using hz
            | cons y l ih =>
              intro z hz
              unfold insI at hz
              split at hz
              · simpa using hz
              · rcases List.mem_cons.mp hz with rfl | hz
                · simp
                · rcases ih z hz with h | h
                  · exact .inl h
                  · exact .inr (List.mem_cons_of_mem _ h)
          rcases hm x l z hz with rfl | hz
          · omega
          · exact List.rel_of_pairwise_cons h hz
    exact ins x _ (sortI_pair l)
/-- one rising arrangement alone -/
theorem sorted_one : ∀ {l m : List Int}, l.Perm m → l.Pairwise (· ≤ ·) → m.Pairwise (· ≤ ·) → l = m
  | [], m, h, _, _ => by simpa using h.nil_eq
  | a :: l, [], h, _, _ => by simp at h
  | a :: l, b :: m, h, h1, h2 => by
    have ab : a = b := by
      have ha : a ∈ b :: m := h.mem_iff.mp List.mem_cons_self
      have hb : b ∈ a :: l := h.mem_iff.mpr List.mem_cons_self
      rcases List.mem_cons.mp ha with e | ha
      · exact e
      · rcases List.mem_cons.mp hb with e | hb
        · exact e.symm
        · have := List.rel_of_pairwise_cons h1 hb
          have := List.rel_of_pairwise_cons h2 ha
          omega
    subst ab
    rw [sorted_one (h.cons_inv) h1.of_cons h2.of_cons]
theorem leastI_none : ∀ {l : List Int}, leastI l = none → l = []
  | [], _ => rfl
  | x :: l, h => by
    unfold leastI at h
    split at h <;> cases h
theorem leastI_ok : ∀ {l : List Int} {i : Int}, leastI l = some i → i ∈ l ∧ ∀ y, y ∈ l → i ≤ y
  | [], i, h => by cases h
  | x :: l, i, h => by
    unfold leastI at h
    cases e : leastI l with
    | none =>
      rw [e] at h
      cases h
      have := leastI_none e
      subst this
      exact ⟨List.mem_cons_self, fun y hy => by have := List.mem_singleton.mp hy; omega⟩
    | some j =>
      rw [e] at h
      obtain ⟨h1, h2⟩ := leastI_ok e
      have h : (if j < x then j else x) = i := Option.some.inj h
      split at h
      · subst h
        refine ⟨List.mem_cons_of_mem _ h1, fun y hy => ?_⟩
        rcases List.mem_cons.mp hy with rfl | hy
        · omega
        · exact h2 y hy
      · subst h
        refine ⟨List.mem_cons_self, fun y hy => ?_⟩
        rcases List.mem_cons.mp hy with rfl | hy
        · omega
        · have := h2 y hy; omega
theorem mostI_none : ∀ {l : List Int}, mostI l = none → l = []
  | [], _ => rfl
  | x :: l, h => by
    unfold mostI at h
    split at h <;> cases h
theorem mostI_ok : ∀ {l : List Int} {i : Int}, mostI l = some i → i ∈ l ∧ ∀ y, y ∈ l → y ≤ i
  | [], i, h => by cases h
  | x :: l, i, h => by
    unfold mostI at h
    cases e : mostI l with
    | none =>
      rw [e] at h
      cases h
      have := mostI_none e
      subst this
      exact ⟨List.mem_cons_self, fun y hy => by have := List.mem_singleton.mp hy; omega⟩
    | some j =>
      rw [e] at h
      obtain ⟨h1, h2⟩ := mostI_ok e
      have h : (if x < j then j else x) = i := Option.some.inj h
      split at h
      · subst h
        refine ⟨List.mem_cons_of_mem _ h1, fun y hy => ?_⟩
        rcases List.mem_cons.mp hy with rfl | hy
        · omega
        · exact h2 y hy
      · subst h
        refine ⟨List.mem_cons_self, fun y hy => ?_⟩
        rcases List.mem_cons.mp hy with rfl | hy
        · omega
        · have := h2 y hy; omega
/-- the name that a built-in bears, and what stands at it -/
def primN : Prim → String
  | .len => "len"
  | .abs => "abs"
  | .min2 => "min"
  | .max2 => "max"
  | .minL => "min"
  | .maxL => "max"
  | .sum => "sum"
  | .sorted => "sorted"
  | .sortedSet => "sorted"
  | .tuple => "tuple"
  | .list => "list"
  | .int => "int"
  | .str => "str"
  | .all => "all"
  | .any => "any"
  | .divmod => "divmod"
  | .isi => "isinstance"
  | .dict => "dict"
  | .minT => "min"
  | .sortT => "sorted"
  | .sumT => "sum"
  | .minI => "min"
/-- .. a type, or a function -/
def primT : Prim → Bool
  | .tuple => true
  | .list => true
  | .int => true
  | .str => true
  | .dict => true
  | _ => false
def primV (p : Prim) : Value := if primT p then .type (primN p) else .builtin (primN p)
def primOk : Prim → Bool
  | .sortedSet => false
  | .str => false
  | .dict => false
  | _ => true
theorem ints_it {K : PySem.W.Frag} {W : Wd} {S : Store} {Q : VK} {a : AV} {x : V} {f : List Int → Out AV} (R : Rep K W S) (ra : RV K W a x) (P : PostO K W (intsD S a f) Q) : ∃ p ns, x = .ref p ∧ SqL K W.H p (ns.map V.int) ∧ PostO K W (f ns) Q := by
  obtain ⟨l, e, P1⟩ := PostO.opt P
  obtain ⟨ns, e2, P2⟩ := P1.opt
  have el := intsOf_eq e2
  subst el
  obtain ⟨p, xs, rfl, h, r⟩ := lst_it R ra e
  have ex := RVs.of_ints r
  subst ex
  exact ⟨p, ns, rfl, SqL.of h, P2⟩
theorem bls_it {K : PySem.W.Frag} {W : Wd} {S : Store} {Q : VK} {a : AV} {x : V} {f : List Bool → Out AV} (R : Rep K W S) (ra : RV K W a x) (P : PostO K W (blsD S a f) Q) : ∃ p ns, x = .ref p ∧ SqL K W.H p (ns.map V.bl) ∧ PostO K W (f ns) Q := by
  obtain ⟨l, e, P1⟩ := PostO.opt P
  obtain ⟨ns, e2, P2⟩ := P1.opt
  have el := blsOf_eq e2
  subst el
  obtain ⟨p, xs, rfl, h, r⟩ := lst_it R ra e
  have ex := RVs.of_bls r
  subst ex
  exact ⟨p, ns, rfl, SqL.of h, P2⟩
theorem isTy_ok {W : Wd} {S : Store} {n : String} {a : AV} {x : V} {b : Bool} (hn : n = "int" ∨ n = "bool" ∨ n = "str" ∨ n = "tuple" ∨ n = "list") (R : Rep X.K W S) (ra : RV X.K W a x) (e : isTy S n a = some b) : ∃ t, TyX X.K W.H x t ∧ PySem.W.kitOne X.K t (.type n) = some b := by
  cases a with
  | non => cases ra; cases e; exact ⟨_, .base .non, by rcases hn with rfl | rfl | rfl | rfl | rfl <;> exact kit_ty (by decide +kernel)⟩
  | bl y => cases ra; cases e; exact ⟨_, .base (.bl y), by rcases hn with rfl | rfl | rfl | rfl | rfl <;> exact kit_ty (by decide +kernel)⟩
  | int y => cases ra; cases e; exact ⟨_, .base (.int y), by rcases hn with rfl | rfl | rfl | rfl | rfl <;> exact kit_ty (by decide +kernel)⟩
  | str y => cases ra; cases e; exact ⟨_, .base (.str y), by rcases hn with rfl | rfl | rfl | rfl | rfl <;> exact kit_ty (by decide +kernel)⟩
  | tup l => cases e; cases ra with
    | tup h _ _ => exact ⟨_, .base (.tup h), by rcases hn with rfl | rfl | rfl | rfl | rfl <;> exact kit_ty (by decide +kernel)⟩
  | lst l => cases e; cases ra with
    | lst h _ _ => exact ⟨_, .base (.lst h), by rcases hn with rfl | rfl | rfl | rfl | rfl <;> exact kit_ty (by decide +kernel)⟩
  | loc i =>
    simp only [isTy] at e
    cases e1 : S[i]? with
    | none => simp [e1] at e
    | some o =>
      cases o with
      | lst l =>
        simp only [e1] at e
        cases e
        cases ra
        obtain ⟨xs, h, _⟩ := R.obj i _ e1
        exact ⟨_, .base (.lst h), by rcases hn with rfl | rfl | rfl | rfl | rfl <;> exact kit_ty (by decide +kernel)⟩
      | _ => simp [e1] at e
  | _ => cases e
theorem prim_ok (hc : X.calm = true) (hu : X.A.units + 64 < cLine) {m : Bool} (p : Prim) (hp : primOk p = true) : CallR X (primV p) (RLD X.K (primD m p)) := by
  rintro pins s σ H xs us Q I r ⟨W, S, as, rfl, R, ra, P⟩
  cases p with
  | len =>
    cases ra with
    | nil => exact P.no.elim
    | cons ra t =>
      cases t with
      | cons _ _ => exact P.no.elim
      | nil =>
        rename_i a x
        obtain ⟨n, e, P⟩ := P.opt
        have q := P.val R (.int n)
        have seq : ∀ {l : List AV}, (∃ p ys, x = .ref p ∧ (SqL X.K W.H p ys ∨ SqT X.K W.H p ys) ∧ RVs X.K W l ys) → l.length = n → wpAny (model X.prog X.w) X.A (call (.builtin "len") us) (EP X pins σ Q) X.xe s := by
          rintro l ⟨p, ys, rfl, h, r1⟩ hl
          exact call_len_seq pins s σ W.H _ us Q I r ⟨p, ys, rfl, h, by rw [← r1.len, hl]; exact q⟩
        have gen : ∀ {l : List AV}, itemsOf S a = some l → l.length = n → wpAny (model X.prog X.w) X.A (call (.builtin "len") us) (EP X pins σ Q) X.xe s := fun h hl => seq (items_it R ra h) hl
        cases a with
        | str z =>
          cases ra
          simp only [lenD] at e
          split at e
          · rename_i hz
            cases e
            exact call_len_str pins s σ W.H _ us Q I r ⟨z, rfl, hz, q⟩
          · cases e
        | loc i =>
          simp only [lenD] at e
          cases e1 : S[i]? with
          | none => simp [e1] at e
          | some o =>
            cases o with
            | lst l =>
              simp only [e1] at e
              exact gen (l := l) (by simp [itemsOf, e1]) (Option.some.inj e)
            | dct lk l =>
              cases lk with
              | true => simp [e1] at e
              | false =>
                simp only [e1] at e
                obtain ⟨ys, h1, h2⟩ := R.obj i _ e1
                cases ra with
                | loc hi =>
                  refine call_lenD pins s σ W.H _ us Q I r ⟨W.φ i, ys, rfl, h1, ?_⟩
                  rw [← h2.len, Option.some.inj e]; exact q
            | _ => simp [e1] at e
        | tup l => exact gen (l := l) rfl (by simpa [lenD, itemsOf] using e)
        | lst l => exact gen (l := l) rfl (by simpa [lenD, itemsOf] using e)
        | scr l => exact gen (l := l.map .int) rfl (by simpa [lenD, itemsOf] using e)
        | ktp l => exact gen (l := l) rfl (by simpa [lenD, itemsOf] using e)
        | ftp l => exact gen (l := l) rfl (by simpa [lenD, itemsOf] using e)
        | _ => simp [lenD, itemsOf] at e
  | abs =>
    cases ra with
    | nil => exact P.no.elim
    | cons ra t => cases t with
      | cons _ _ => cases ra <;> exact P.no.elim
      | nil =>
        cases ra with
        | int i => exact call_abs pins s σ W.H _ us Q I r ⟨i, rfl, P.val R (.int _)⟩
        | _ => exact P.no.elim
  | min2 =>
    cases ra with
    | nil => exact P.no.elim
    | cons ra t => cases t with
      | nil => cases ra <;> exact P.no.elim
      | cons rb t => cases t with
        | cons _ _ => cases ra <;> cases rb <;> exact P.no.elim
        | nil =>
          cases ra with
          | int i => cases rb with
            | int j => exact call_min2 hc pins s σ W.H _ us Q I r ⟨i, j, rfl, P.val R (.int _)⟩
            | _ => exact P.no.elim
          | _ => cases rb <;> exact P.no.elim
  | max2 =>
    cases ra with
    | nil => exact P.no.elim
    | cons ra t => cases t with
      | nil => cases ra <;> exact P.no.elim
      | cons rb t => cases t with
        | cons _ _ => cases ra <;> cases rb <;> exact P.no.elim
        | nil =>
          cases ra with
          | int i => cases rb with
            | int j => exact call_max2 hc pins s σ W.H _ us Q I r ⟨i, j, rfl, P.val R (.int _)⟩
            | _ => exact P.no.elim
          | _ => cases rb <;> exact P.no.elim
  | minL =>
    cases ra with
    | nil => exact P.no.elim
    | cons ra t => cases t with
      | cons _ _ => exact P.no.elim
      | nil =>
        obtain ⟨p, ns, rfl, h, P⟩ := ints_it R ra P
        obtain ⟨i, e, P⟩ := P.opt
        obtain ⟨h1, h2⟩ := leastI_ok e
        refine cr_min hc pins s σ W.H _ us Q I r ⟨p, ns, rfl, h, List.length_pos_of_mem h1, fun m k1 k2 => ?_⟩
        have : m = i := by have := h2 m k1; have := k2 i h1; omega
        rw [this]; exact P.val R (.int _)
  | maxL =>
    cases ra with
    | nil => exact P.no.elim
    | cons ra t => cases t with
      | cons _ _ => exact P.no.elim
      | nil =>
        obtain ⟨p, ns, rfl, h, P⟩ := ints_it R ra P
        obtain ⟨i, e, P⟩ := P.opt
        obtain ⟨h1, h2⟩ := mostI_ok e
        refine cr_max hc pins s σ W.H _ us Q I r ⟨p, ns, rfl, h, List.length_pos_of_mem h1, fun m k1 k2 => ?_⟩
        have : m = i := by have := h2 m k1; have := k2 i h1; omega
        rw [this]; exact P.val R (.int _)
  | sum =>
    cases ra with
    | nil => exact P.no.elim
    | cons ra t => cases t with
      | cons _ _ => exact P.no.elim
      | nil =>
        obtain ⟨p, ns, rfl, h, P⟩ := ints_it R ra P
        exact cr_sum hc pins s σ W.H _ us Q I r ⟨p, ns, rfl, h, P.val R (.int _)⟩
  | sorted =>
    cases ra with
    | nil => exact P.no.elim
    | cons ra t => cases t with
      | cons _ _ => exact P.no.elim
      | nil =>
        obtain ⟨p, ns, rfl, h, P⟩ := ints_it R ra P
        refine cr_sortedI pins s σ W.H _ us Q I r ⟨p, ns, rfl, h, fun ns' q k1 k2 hq => ?_⟩
        have : ns' = sortI ns := sorted_one (k1.trans (sortI_perm ns).symm) k2 (sortI_pair ns)
        rw [this]
        exact P.mk R (RVs.ints _) hq
  | tuple =>
    cases ra with
    | nil => exact P.no.elim
    | cons ra t => cases t with
      | cons _ _ => cases ra <;> exact P.no.elim
      | nil =>
        rename_i a x
        have P' : (∃ l, a = .tup l ∧ PostO X.K W (.ok (.tup l) S) Q) ∨ PostO X.K W (optD (lstOf S a) fun l => .ok (.tup l) S) Q := by
          cases a with
          | tup l => exact .inl ⟨l, rfl, P⟩
          | _ => exact .inr P
        rcases P' with ⟨l, rfl, P⟩ | P
        · obtain ⟨p, ys, rfl, h, r1⟩ := ra.itT
          exact call_tuple_of pins s σ W.H _ us Q I r ⟨p, ys, rfl, .inr ⟨h, P.val R ra⟩⟩
        · obtain ⟨l, e, P⟩ := P.opt
          obtain ⟨p, ys, rfl, h, r1⟩ := lst_it R ra e
          exact call_tuple_of pins s σ W.H _ us Q I r ⟨p, ys, rfl, .inl ⟨SqL.of h, fun q hq => P.tup R r1 hq⟩⟩
  | list =>
    cases ra with
    | nil => exact P.no.elim
    | cons ra t => cases t with
      | cons _ _ => cases ra <;> exact P.no.elim
      | nil =>
        rename_i a x
        have P' : (∃ l, a = .tup l ∧ PostO X.K W (mkL m l S) Q) ∨ PostO X.K W (optD (lstOf S a) fun l => mkL m l S) Q := by
          cases a with
          | tup l => exact .inl ⟨l, rfl, P⟩
          | _ => exact .inr P
        rcases P' with ⟨l, rfl, P⟩ | P
        · obtain ⟨p, ys, rfl, h, r1⟩ := ra.itT
          exact call_list_of pins s σ W.H _ us Q I r ⟨p, ys, rfl, .inr h, fun q hq => P.mk R r1 hq⟩
        · obtain ⟨l, e, P⟩ := P.opt
          obtain ⟨p, ys, rfl, h, r1⟩ := lst_it R ra e
          exact call_list_of pins s σ W.H _ us Q I r ⟨p, ys, rfl, .inl (SqL.of h), fun q hq => P.mk R r1 hq⟩
  | int =>
    cases ra with
    | nil => exact P.no.elim
    | cons ra t => cases t with
      | cons _ _ => cases ra <;> exact P.no.elim
      | nil =>
        cases ra with
        | int i => exact call_int1 pins s σ W.H _ us Q I r (.inl ⟨i, rfl, P.val R (.int _)⟩)
        | bl b => exact call_int1 pins s σ W.H _ us Q I r (.inr ⟨b, rfl, P.val R (.int _)⟩)
        | _ => exact P.no.elim
  | all =>
    cases ra with
    | nil => exact P.no.elim
    | cons ra t => cases t with
      | cons _ _ => exact P.no.elim
      | nil =>
        obtain ⟨p, ns, rfl, h, P⟩ := bls_it R ra P
        exact cr_all hc pins s σ W.H _ us Q I r ⟨p, ns, rfl, h, P.val R (.bl _)⟩
  | any =>
    cases ra with
    | nil => exact P.no.elim
    | cons ra t => cases t with
      | cons _ _ => exact P.no.elim
      | nil =>
        obtain ⟨p, ns, rfl, h, P⟩ := bls_it R ra P
        exact cr_any hc pins s σ W.H _ us Q I r ⟨p, ns, rfl, h, P.val R (.bl _)⟩
  | divmod =>
    cases ra with
    | nil => exact P.no.elim
    | cons ra t => cases t with
      | nil => cases ra <;> exact P.no.elim
      | cons rb t => cases t with
        | cons _ _ => cases ra <;> cases rb <;> exact P.no.elim
        | nil =>
          cases ra with
          | int i => cases rb with
            | int j =>
              obtain ⟨⟨h1, h2⟩, P⟩ := P.ite
              exact call_divmod pins s σ W.H _ us Q I r ⟨i, j, rfl, ⟨h1, h2⟩, fun p hp => P.tup R (.cons (.int _) (.cons (.int _) .nil)) hp⟩
            | _ => exact P.no.elim
          | _ => cases rb <;> exact P.no.elim
  | isi =>
    cases ra with
    | nil => exact P.no.elim
    | cons ra t => cases t with
      | nil => exact P.no.elim
      | cons rb t => cases t with
        | cons _ _ => cases rb <;> exact P.no.elim
        | nil =>
          cases rb with
          | ty n =>
            obtain ⟨hn, P⟩ := P.ite
            obtain ⟨b, e, P⟩ := P.opt
            have hn : n = "int" ∨ n = "bool" ∨ n = "str" ∨ n = "tuple" ∨ n = "list" := by simpa [tyB, or_assoc] using hn
            obtain ⟨t, h1, h2⟩ := isTy_ok hn R ra e
            exact call_isi pins s σ W.H _ us Q I r ⟨_, _, t, _, b, rfl, .ty n, h1, h2, P.val R (.bl b)⟩
          | _ => exact P.no.elim
  | minT =>
    cases ra with
    | nil => exact P.no.elim
    | cons ra t => cases t with
      | cons _ _ => exact P.no.elim
      | nil => exact cr_minT hc (by omega) pins s σ W.H _ us Q I r ⟨W, S, _, _, rfl, rfl, R, ra, P⟩
  | sortT =>
    cases ra with
    | nil => exact P.no.elim
    | cons ra t => cases t with
      | cons _ _ => exact P.no.elim
      | nil => exact cr_sortT (m := m) (by omega) pins s σ W.H _ us Q I r ⟨W, S, _, _, rfl, rfl, R, ra, P⟩
  | sumT =>
    cases ra with
    | nil => exact P.no.elim
    | cons ra t => cases t with
      | cons _ _ => cases ra <;> exact P.no.elim
      | nil =>
        rename_i a x
        cases a with
        | tup l =>
          obtain ⟨ns, e, P2⟩ := P.opt
          clear P
          have el := intsOf_eq e
          subst el
          obtain ⟨p, ys, rfl, h, r1⟩ := ra.itT
          have ex := RVs.of_ints r1
          subst ex
          exact cr_sumT hc pins s σ W.H _ us Q I r ⟨p, ns, rfl, h, P2.val R (.int _)⟩
        | _ => exact P.no.elim
  | minI =>
    cases ra with
    | nil => exact P.no.elim
    | cons ra t => cases t with
      | cons _ _ => cases ra <;> exact P.no.elim
      | nil =>
        rename_i a x
        cases a with
        | tup l =>
          obtain ⟨ns, e, P1⟩ := P.opt
          obtain ⟨m, e2, P2⟩ := P1.opt
          clear P P1
          have el := intsOf_eq e
          subst el
          obtain ⟨p, ys, rfl, h, r1⟩ := ra.itT
          have ex := RVs.of_ints r1
          subst ex
          obtain ⟨h1, h2⟩ := leastI_ok e2
          exact cr_minI hc (by omega) pins s σ W.H _ us Q I r ⟨p, ns, m, rfl, h, h1, h2, P2.val R (.int _)⟩
        | _ => exact P.no.elim
  | _ => cases hp
end
end VI

set_option maxRecDepth 100000
set_option maxHeartbeats 3200000
/-! VIS: the set of a list, of a tuple of ints, and its ints in order. -/
namespace VI
open PySem PySem.Spec PyProof.Rows L2
section
variable {P : Program} {w : World} {A : Around} {E : Value → Shared → Prop} {s : Shared}
/-- a set of nothing, newly made -/
def objE (w : World) : Obj :=
  { cls := .type "set", dict := none
    data := .set #[] 0 (.fresh 0 0 (!w.params.followText "set-order")) }
def itE (l : Addr) : Obj := { cls := .type "list_iterator", data := .fields #[.ref l, .int 0 0] }
/-- the ints of a list go into a set of nothing -/
theorem loop_fill {hp : Heap} {a l : Addr} {items : Array Value} {ns : List Int} {R : Result → Shared → Prop} (hh : A.in1.handled = none) (he : hp.get? a = some (objE w)) (hL : hp.IsList l items) (hal : a ≠ l) (hI : IntsAre items.toList ns) (hsm : ns.length + 1 < scanBound)
    (k : ∀ hp2 tk c, c ≤ ns.length → SetR w hp2 a (fun j => decide (j ∈ ns)) c → (∀ b o, b ≠ a → hp.get? b = some o → hp2.get? b = some o) → R (.ok (.ret .none)) { s with heap := hp2, toks := tk }) :
    codeAny (model P w) A (.builtin "set.update.loop" ⟨[.ref a, .ref hp.objs.size], []⟩) R { s with heap := hp.push (itE l) } := by
  have hn : items.size = ns.length := (Array.length_toList (xs := items)).symm.trans (IntsAre.length hI)
  obtain ⟨o1, g1, _⟩ := id hL
  have la : a < hp.objs.size := Heap.lt_size he
  have ll : l < hp.objs.size := Heap.lt_size g1
  have away : a ∉ [hp.objs.size, l] := by
    intro q
    rcases List.mem_cons.1 q with q | q
    · exact absurd q (Nat.ne_of_lt la)
    · exact hal (List.mem_singleton.1 q)
  refine set_update_ints ((Walks.list hh _ l (Nat.ne_of_lt ll) items).toS) a away ns hn hsm (fun i v e => ?_) items.size 0 _ (Nat.sub_zero _) (Nat.zero_le _) ⟨⟨_, Heap.get?_push_size _ rfl, rfl, rfl⟩, hL.push _⟩ ⟨0, Nat.le_refl 0, setR_new_at (Heap.get?_push_of_some _ he)⟩ ?_
  · have hlt : i < ns.length := hn ▸ (Array.getElem?_eq_some_iff.mp e).1
    obtain ⟨t, q⟩ := IntsAre.int_at hI i v (by rwa [Array.getElem?_toList])
    exact ⟨ns[i], t, List.getElem?_eq_getElem hlt, by rw [q]; simp [List.getD, hlt]⟩
  · intro s2 c mv hc r
    have q := k s2.heap s2.toks c (hn ▸ hc) r fun b o hb g => mv.heap b o (fun z => ?_) (Heap.get?_push_of_some _ g)
    · have e : s2 = { s with heap := s2.heap, toks := s2.toks } := by
        have e1 := mv.gens
        have e2 := mv.drawn
        have e3 := mv.os
        cases s2
        simp only at e1 e2 e3
        subst e1 e2 e3
        rfl
      rw [e]; exact q
    · rcases List.mem_cons.1 z with z | z
      · exact hb z
      · exact absurd (List.mem_singleton.1 z) (Nat.ne_of_lt (Heap.lt_size g))
def itTu (l : Addr) : Obj := { cls := .type "tuple_iterator", data := .fields #[.ref l, .int 0 0] }
/-- .. of a tuple -/
theorem fillT {hp : Heap} {a l : Addr} {items : Array Value} {ns : List Int} {R : Result → Shared → Prop} (hh : A.in1.handled = none) (he : hp.get? a = some (objE w)) (hT : hp.IsTuple l items) (hal : a ≠ l) (hI : IntsAre items.toList ns) (hsm : ns.length + 1 < scanBound)
    (k : ∀ hp2 tk c, c ≤ ns.length → SetR w hp2 a (fun j => decide (j ∈ ns)) c → (∀ b o, b ≠ a → hp.get? b = some o → hp2.get? b = some o) → R (.ok (.ret .none)) { s with heap := hp2, toks := tk }) :
    codeAny (model P w) A (.builtin "set.update.loop" ⟨[.ref a, .ref hp.objs.size], []⟩) R { s with heap := hp.push (itTu l) } := by
  obtain ⟨o1, g1, _⟩ := id hT
  have hla : a < hp.objs.size := Heap.lt_size he
  have hll : l < hp.objs.size := Heap.lt_size g1
  have hlen : items.size = ns.length := by rw [← IntsAre.length hI, Array.length_toList]
  have out : a ∉ [hp.objs.size, l] := fun q => by
    simp only [List.mem_cons, List.not_mem_nil, or_false] at q
    rcases q with q | q
    · rw [q] at hla; exact absurd hla (Nat.lt_irrefl _)
    · exact hal q
  refine set_update_ints ((Walks.tuple hh _ l (Nat.ne_of_lt hll) items).toS) a out ns hlen hsm (fun i v e => ?_) items.size 0 _ (Nat.sub_zero _) (Nat.zero_le _) ⟨⟨_, Heap.get?_push_size _ rfl, rfl, rfl⟩, hT.push _⟩ ⟨0, Nat.zero_le _, setR_new_at (Heap.get?_push_of_some _ he)⟩ ?_
  · have hi : i < ns.length := by
      obtain ⟨q, _⟩ := Array.getElem?_eq_some_iff.mp e
      omega
    obtain ⟨t, q⟩ := IntsAre.int_at hI i v (by rw [Array.getElem?_toList]; exact e)
    exact ⟨ns[i], t, List.getElem?_eq_getElem hi, by rw [q]; simp [List.getD, hi]⟩
  · intro s2 c mv hc r
    have kp : ∀ b o, b ≠ a → hp.get? b = some o → s2.heap.get? b = some o := fun b o hb g => mv.heap b o (fun z => by
      simp only [List.mem_cons, List.not_mem_nil, or_false] at z
      rcases z with z | z
      · exact hb z
      · exact Nat.ne_of_lt (Heap.lt_size g) z) (Heap.get?_push_of_some _ g)
    have e : { s with heap := s2.heap, toks := s2.toks } = s2 := by
      have h1 := mv.gens
      have h2 := mv.drawn
      have h3 := mv.os
      cases s2
      simp only at h1 h2 h3
      subst h1 h2 h3
      rfl
    have q := k s2.heap s2.toks c (hlen ▸ hc) r kp
    rwa [e] at q
theorem tup_set : isSubtype (.type "tuple") (.type "set") = pure false := by rw [isSubtype_type]; kernel_rfl
theorem tup_frozen : isSubtype (.type "tuple") (.type "frozenset") = pure false := by rw [isSubtype_type]; kernel_rfl
/-- what the set's init does -/
def Made (w : World) (s : Shared) (ns : List Int) (s2 : Shared) : Prop := ∃ hp tk c, s2 = { s with heap := hp, toks := tk } ∧ c ≤ ns.length ∧ SetR w hp s.heap.objs.size (fun j => decide (j ∈ ns)) c ∧ ∀ b o, s.heap.get? b = some o → hp.get? b = some o
theorem call_setL {l : Addr} {items : Array Value} {ns : List Int} {Q : Value → Shared → Prop} (hh : A.handled = none) (hL : s.heap.IsList l items) (hI : IntsAre items.toList ns) (hsm : ns.length + 1 < scanBound)
    (k : ∀ s2, Made w s ns s2 → Q (.ref s.heap.objs.size) s2) : wpAny (model P w) A (call (.type "set") [.ref l]) Q E s := by
  have ⟨c, tl, hmro⟩ := F.called_set.mro
  have made := F.called_set.made
  have sub := F.called_set.sub
  have nt := F.called_set.notType
  have cc := F.called_set.canCreate
  have tc := F.typeCall_set_1 (.ref l)
  have look := F.called_set.init.lookup
  have bnd := F.called_set.init.bind (.ref s.heap.objs.size)
  refine wpAny_call (codeAny_of_tree (wpAny_pure ⟨Code.quiet_builtin _ (by decide +kernel), codeAny_builtin F.entry_type_call ?_⟩))
  rw [Around.under_plain (weight_type_call_type "set" _ _) rfl]
  repeat any_goals first | assumption | wp_step
  refine codeAny_mono (code_set_led1 (E := E) (.ref l) (Q₁ := fun v t => v = .ref s.heap.objs.size ∧ t = { s with heap := s.heap.push (objE w) }) ⟨rfl, rfl⟩) fun r t q => ?_
  rcases r with e | f
  · exact q
  · cases f with
    | ret v =>
      obtain ⟨rfl, rfl⟩ := q
      have g0 : (s.heap.push (objE w)).get? s.heap.objs.size = some (objE w) := Heap.get?_push_size _ rfl
      have ty : Shared.TypeIs { s with heap := s.heap.push (objE w) } (.ref s.heap.objs.size) "set" := ⟨_, g0, rfl⟩
      repeat any_goals first | assumption | wp_step
      refine codeAny_mono (codeAny_call_builtin (R := wants (fun v t => v = .none ∧ Made w s ns t) E) F.called_set.init.plain F.entry_set_init (check_set_init_1 ty ?_)) fun r2 t2 q2 => ?_
      · have L1 : (s.heap.push (objE w)).IsList l items := hL.push _
        have d1 := F.sub_list_set
        have d2 := F.sub_list_frozenset
        have d3 : (Value.type "list" == Value.type "dict") = false := by decide
        obtain ⟨⟨cls, dct, dat, slots⟩, g1, c1, n1, e1⟩ := id L1
        simp only at c1 e1
        subst c1 e1
        unfold Builtin.«set.__init__» noKeywords Builtin.Frozenset.updateFrom
        generalize hj : pyIter = walkIt
        wp_walk
        subst hj
        refine wpAny_pyIter_list L1 (wpAny_bind (wpAny_runValue ?_))
        have ll : l ≠ s.heap.objs.size := by
          obtain ⟨o, g, _⟩ := id hL
          exact Nat.ne_of_lt (Heap.lt_size g)
        refine loop_fill (s := s) (by simp [hh]) g0 L1 (Ne.symm ll) hI hsm fun hp2 tk c hc r kp => ?_
        refine wpAny_pure (wpAny_pure ⟨rfl, hp2, tk, c, rfl, hc, r, fun b o g => ?_⟩)
        exact kp b o (Nat.ne_of_lt (Heap.lt_size g)) (Heap.get?_push_of_some _ g)
      · rcases r2 with e | f
        · exact q2
        · cases f with
          | ret v =>
            obtain ⟨rfl, mk⟩ := q2
            repeat any_goals first | assumption | wp_step
            exact k _ mk
          | _ => exact q2.elim
    | _ => exact q.elim
theorem call_setT {l : Addr} {items : Array Value} {ns : List Int} {Q : Value → Shared → Prop} (hh : A.handled = none) (hT : s.heap.IsTuple l items) (hI : IntsAre items.toList ns) (hsm : ns.length + 1 < scanBound)
    (k : ∀ s2, Made w s ns s2 → Q (.ref s.heap.objs.size) s2) : wpAny (model P w) A (call (.type "set") [.ref l]) Q E s := by
  have ⟨c, tl, hmro⟩ := F.called_set.mro
  have made := F.called_set.made
  have sub := F.called_set.sub
  have nt := F.called_set.notType
  have cc := F.called_set.canCreate
  have tc := F.typeCall_set_1 (.ref l)
  have look := F.called_set.init.lookup
  have bnd := F.called_set.init.bind (.ref s.heap.objs.size)
  refine wpAny_call (codeAny_of_tree (wpAny_pure ⟨Code.quiet_builtin _ (by decide +kernel), codeAny_builtin F.entry_type_call ?_⟩))
  rw [Around.under_plain (weight_type_call_type "set" _ _) rfl]
  repeat any_goals first | assumption | wp_step
  refine codeAny_mono (code_set_led1 (E := E) (.ref l) (Q₁ := fun v t => v = .ref s.heap.objs.size ∧ t = { s with heap := s.heap.push (objE w) }) ⟨rfl, rfl⟩) fun r t q => ?_
  rcases r with e | f
  · exact q
  · cases f with
    | ret v =>
      obtain ⟨rfl, rfl⟩ := q
      have g0 : (s.heap.push (objE w)).get? s.heap.objs.size = some (objE w) := Heap.get?_push_size _ rfl
      have ty : Shared.TypeIs { s with heap := s.heap.push (objE w) } (.ref s.heap.objs.size) "set" := ⟨_, g0, rfl⟩
      repeat any_goals first | assumption | wp_step
      refine codeAny_mono (codeAny_call_builtin (R := wants (fun v t => v = .none ∧ Made w s ns t) E) F.called_set.init.plain F.entry_set_init (check_set_init_1 ty ?_)) fun r2 t2 q2 => ?_
      · have L1 : (s.heap.push (objE w)).IsTuple l items := hT.push _
        have d1 := tup_set
        have d2 := tup_frozen
        have d3 : (Value.type "tuple" == Value.type "dict") = false := by decide
        obtain ⟨⟨cls, dct, dat, slots⟩, g1, c1, n1, e1⟩ := id L1
        simp only at c1 e1
        subst c1 e1
        unfold Builtin.«set.__init__» noKeywords Builtin.Frozenset.updateFrom
        generalize hj : pyIter = walkIt
        wp_walk
        subst hj
        refine wpAny_pyIter_tuple L1 (wpAny_bind (wpAny_runValue ?_))
        have ll : l ≠ s.heap.objs.size := by
          obtain ⟨o, g, _⟩ := id hT
          exact Nat.ne_of_lt (Heap.lt_size g)
        refine fillT (s := s) (by simp [hh]) g0 L1 (Ne.symm ll) hI hsm fun hp2 tk c hc r kp => ?_
        refine wpAny_pure (wpAny_pure ⟨rfl, hp2, tk, c, rfl, hc, r, fun b o g => ?_⟩)
        exact kp b o (Nat.ne_of_lt (Heap.lt_size g)) (Heap.get?_push_of_some _ g)
      · rcases r2 with e | f
        · exact q2
        · cases f with
          | ret v =>
            obtain ⟨rfl, mk⟩ := q2
            repeat any_goals first | assumption | wp_step
            exact k _ mk
          | _ => exact q2.elim
    | _ => exact q.elim
end
/-! the ints of a list, each once, rising -/
theorem mem_insI {x y : Int} : ∀ {l : List Int}, y ∈ insI x l ↔ y = x ∨ y ∈ l
  | [] => by simp [insI]
  | z :: l => by
    unfold insI
    split
    · simp
    · simp only [List.mem_cons, mem_insI (l := l)]
      constructor
      · rintro (h | h | h)
        · exact .inr (.inl h)
        · exact .inl h
        · exact .inr (.inr h)
      · rintro (h | h | h)
        · exact .inr (.inl h)
        · exact .inl h
        · exact .inr (.inr h)
theorem mem_sortI {y : Int} : ∀ {l : List Int}, y ∈ sortI l ↔ y ∈ l
  | [] => by simp [sortI]
  | z :: l => by rw [sortI, mem_insI, mem_sortI (l := l), List.mem_cons]
theorem mem_dedI {y : Int} : ∀ {l : List Int}, y ∈ dedI l ↔ y ∈ l
  | [] => by simp [dedI]
  | z :: l => by
    unfold dedI
    split
    · rename_i h
      rw [mem_dedI (l := l), List.mem_cons]
      exact ⟨.inr, fun q => q.elim (fun e => e ▸ h) id⟩
    · rw [List.mem_cons, mem_dedI (l := l), List.mem_cons]
theorem nodup_dedI : ∀ l : List Int, (dedI l).Nodup
  | [] => by simp [dedI]
  | z :: l => by
    unfold dedI
    split
    · exact nodup_dedI l
    · rename_i h
      exact List.nodup_cons.2 ⟨fun q => h (mem_dedI.1 q), nodup_dedI l⟩
theorem pw_insI {x : Int} : ∀ {l : List Int}, l.Pairwise (· < ·) → x ∉ l → (insI x l).Pairwise (· < ·)
  | [], _, _ => by simp [insI]
  | z :: l, h, hx => by
    have h2 := List.pairwise_cons.1 h
    have hne : x ≠ z := fun e => hx (by rw [e]; exact .head _)
    unfold insI
    split
    · rename_i hl
      refine List.pairwise_cons.2 ⟨fun y hy => ?_, h⟩
      rcases List.mem_cons.1 hy with rfl | hy
      · omega
      · have := h2.1 y hy
        omega
    · rename_i hl
      refine List.pairwise_cons.2 ⟨fun y hy => ?_, pw_insI h2.2 fun q => hx (.tail _ q)⟩
      rcases mem_insI.1 hy with rfl | hy
      · omega
      · exact h2.1 y hy
theorem pw_sortI : ∀ {l : List Int}, l.Nodup → (sortI l).Pairwise (· < ·)
  | [], _ => by simp [sortI]
  | z :: l, h => by
    have h2 := List.nodup_cons.1 h
    exact pw_insI (pw_sortI h2.2) fun q => h2.1 (mem_sortI.1 q)
theorem pw_one : ∀ {xs ys : List Int}, xs.Pairwise (· < ·) → ys.Pairwise (· < ·) → (∀ k, k ∈ xs ↔ k ∈ ys) → xs = ys
  | [], [], _, _, _ => rfl
  | [], y :: ys, _, _, h => absurd ((h y).2 (.head _)) (by simp)
  | x :: xs, [], _, _, h => absurd ((h x).1 (.head _)) (by simp)
  | x :: xs, y :: ys, p, q, h => by
    have p2 := List.pairwise_cons.1 p
    have q2 := List.pairwise_cons.1 q
    have e : x = y := by
      rcases List.mem_cons.1 ((h x).1 (.head _)) with e | e
      · exact e
      · rcases List.mem_cons.1 ((h y).2 (.head _)) with e2 | e2
        · exact e2.symm
        · have := q2.1 x e
          have := p2.1 y e2
          omega
    subst e
    congr 1
    refine pw_one p2.2 q2.2 fun k => ⟨fun hk => ?_, fun hk => ?_⟩
    · rcases List.mem_cons.1 ((h k).1 (.tail _ hk)) with e | e
      · have := p2.1 k hk
        omega
      · exact e
    · rcases List.mem_cons.1 ((h k).2 (.tail _ hk)) with e | e
      · have := q2.1 k hk
        omega
      · exact e
def riseI (l : List Int) : List Int := sortI (dedI l)
theorem pw_riseI (l : List Int) : (riseI l).Pairwise (· < ·) := pw_sortI (nodup_dedI l)
theorem mem_riseI {l : List Int} {k : Int} : k ∈ riseI l ↔ k ∈ l := by rw [riseI, mem_sortI, mem_dedI]
section
variable {X : Cx}
/-- set(xs), xs a list of ints -/
def rSetL (K : PySem.W.Frag) (w : World) : List V → Hp → VK → Prop := fun xs H Q => ∃ (p : Addr) (ns : List Int), xs = [.ref p] ∧ (SqL K H p (ns.map V.int) ∨ SqT K H p (ns.map V.int)) ∧ ns.length ≤ 60 ∧
  ∀ q c, c ≤ ns.length → H q = none → Q (.ref q) (upd H q (SetO w q (fun j => decide (j ∈ ns)) c))
theorem cr_setL (hc : X.calm = true) : CallR X (.type "set") (rSetL X.K X.w) := by
  intro pins s σ H xs us Q I r h
  obtain ⟨p, ns, rfl, hq, hz, q⟩ := h
  rw [Vals.ref1 r]
  have fin : ∀ s2, Made X.w s ns s2 → EP X pins σ Q (.ref s.heap.objs.size) s2 := by
    rintro s2 ⟨hp, tk, c, rfl, hcn, R, kp⟩
    exact ⟨.ref _, upd H s.heap.objs.size (SetO X.w s.heap.objs.size (fun j => decide (j ∈ ns)) c), I.laid (t' := tk) (fun b u e => kp b u e) (Nat.le_refl _) (setO_new R), rfl, q _ c hcn (I.hok.fresh (Nat.le_refl _))⟩
  rcases hq with hq | hq
  · obtain ⟨its, rv, pt, hz2⟩ := I.list hq
    exact call_setL (I.ok.hd hc) (show s.heap.IsList p its.toArray from pt.isList) (ints_of_vals rv) (by unfold scanBound; omega) fin
  · obtain ⟨its, rv, pt, hz2⟩ := I.tuple hq
    exact call_setT (I.ok.hd hc) (show s.heap.IsTuple p its.toArray from pt) (ints_of_vals rv) (by unfold scanBound; omega) fin
end
end VI

set_option maxRecDepth 100000
set_option maxHeartbeats 3200000
/-! VIE: enumerate of a tuple. -/
namespace VI
open PySem PySem.Spec PyProof.Rows L2
open AutoSeq1 (wpAny_loadPart')
def itT (l : Addr) : Obj := { cls := .type "tuple_iterator", data := .fields #[.ref l, .int 0 0] }
def enO (it : Addr) : Obj := { cls := .type "enumerate", data := .fields #[.none, .bool false, .ref it, rawInt 0, .none, .none] }
theorem new_enumT (l : Addr) (items : Array Value) (n : Nat) (dct : Option Addr) (sl : Array (Option Value)) :
    Meets (Builtin.«enumerate.__new__» ⟨[.type "enumerate", .ref l], []⟩) fun _ R s => s.heap.get? l = some { cls := .type "tuple", dict := dct, data := .seq items n, slots := sl } ∧
      R (.ok (.ret (.ref (s.heap.push (itT l)).objs.size))) { s with heap := (s.heap.push (itT l)).push (enO s.heap.objs.size) } :=
  .of_wp fun prog w A R s h => by
    rcases s with ⟨hp, g, d, tk, os⟩
    have hl := h.1
    have hr := h.2
    have sube := sub_enumerate
    have tup : Heap.IsTuple (Shared.heap ⟨hp, g, d, tk, os⟩) l items := ⟨_, hl, rfl, n, rfl⟩
    wp_walk using wpAny_loadPart' hl
    refine wpAny_stack_any fun st => wpAny_pure ?_
    split
    · rename_i c _ _ _ _ _
      cases (c == Value.type "enumerate") <;>
        (wp_walk using wpAny_loadPart' hl, wpAny_pyIter_tuple tup
         exact ⟨_, rfl, hr⟩)
    · wp_walk using wpAny_loadPart' hl, wpAny_pyIter_tuple tup
      exact ⟨_, rfl, hr⟩

section
variable {prog : Program} {w : World} {A : Around} {E : Value → Shared → Prop} {s : Shared}
theorem call_enumT {l : Addr} {items : Array Value} {Q : Value → Shared → Prop} (tup : s.heap.IsTuple l items)
    (k : ∀ h', IsEnum h' (s.heap.objs.size + 1) s.heap.objs.size 0 .none → h'.IsTupleIter s.heap.objs.size l 0 → (∀ b o, s.heap.get? b = some o → h'.get? b = some o) → Q (.ref (s.heap.objs.size + 1)) { s with heap := h' }) :
    wpAny (model prog w) A (call (.type "enumerate") [.ref l]) Q E s := by
  obtain ⟨⟨cls, dct, dat, sl⟩, hl, hc, n, hd⟩ := tup
  simp only at hc hd
  subst hc hd
  refine callType_new F.called_enumerate (by decide) (F.typeCall_enumerate_1 _) (F.newCall_enumerate_1 _) (fun obj => F.args_object_init_2 obj _) F.entry_enumerate_new (new_enumT l items n dct sl) ⟨hl, ?_⟩
  have z : (s.heap.push (itT l)).objs.size = s.heap.objs.size + 1 := Heap.size_push ..
  have e1 : IsEnum ((s.heap.push (itT l)).push (enO s.heap.objs.size)) (s.heap.objs.size + 1) s.heap.objs.size 0 .none := by
    have q := Heap.get?_push_size (s.heap.push (itT l)) (o := enO s.heap.objs.size) rfl
    rw [z] at q
    exact q
  show _ ∧ _
  rw [z]
  exact ⟨⟨_, e1, rfl⟩, k _ e1 ⟨_, Heap.get?_push_of_some _ (Heap.get?_push_size _ rfl), rfl, rfl⟩ fun b o g => Heap.get?_push_of_some _ (Heap.get?_push_of_some _ g)⟩
end
/-- the items of a tuple, each in a new pair with its number -/
def IteT (K : PySem.W.Frag) (a : Addr) (xs : List V) : It :=
  ⟨fun i H => SqT K H a xs ∧ i < xs.length, fun i H v H' => ∃ T x, v = .ref T ∧ H T = none ∧ H' = upd H T (.tup [.int (i : Nat), x]) ∧ xs[i]? = some x, fun i H => SqT K H a xs ∧ i = xs.length⟩
theorem turn_enumT {P : Program} {w : World} {K : PySem.W.Frag} {elts : List Expr} {kk : Nat} {tpos : Pos} {xs : List V} (a e it : Addr) :
    Turn P w K (.Tuple elts kk tpos) (IteT K a xs) [e, it] e fun i h => (∃ old, IsEnum h e it ((i : Nat) : Int) old) ∧ h.IsTupleIter it a i ∧ e ≠ it ∧ a ≠ it ∧ a ≠ e where
  mem := List.mem_cons_self ..
  obj := fun i h st b hb => by
    obtain ⟨⟨old, he⟩, ⟨o, ho, hc, hd⟩, _⟩ := st
    rcases List.mem_cons.1 hb with rfl | hb
    · exact ⟨_, he, fun v q => nomatch q⟩
    · rw [List.mem_singleton.1 hb]
      exact ⟨o, ho, fun v q => by rw [hd] at q; cases q⟩
  keep := fun i h h' st k => by
    obtain ⟨⟨old, he⟩, hi, r⟩ := st
    exact ⟨⟨old, k e (by simp) _ he⟩, hi.at fun o q => k it (by simp) o q, r⟩
  item := by
    intro X hP hw hK hc i pins s σ H E I hf st hg
    subst hP hw hK
    obtain ⟨⟨old, he⟩, hit, hne, hai, hae⟩ := st
    obtain ⟨hq, hi⟩ := hg
    obtain ⟨its, rv, pt, hz⟩ := I.tuple hq
    have hx : xs[i]? = some xs[i] := List.getElem?_eq_getElem hi
    obtain ⟨u, hu, ru⟩ := rv.get hx
    have el : e < s.heap.objs.size := Heap.lt_size he
    have il : it < s.heap.objs.size := by obtain ⟨_, q, _⟩ := hit; exact Heap.lt_size q
    have hlen := rv.length
    have out : e ∉ [it, a] := by simp [hne, Ne.symm hae]
    refine wpAny_pyNext_enum_itemD (Draws.tuple (by simp [I.ok.hd hc]) it a hai its.toArray) he ⟨hit, pt⟩ (by simp; omega) hne out fun u' h' tk hu' ho st' hT hsz hk => ?_
    have eu : u' = u := by
      have q : its[i]? = some u' := by simpa using hu'
      rw [hu] at q
      exact (Option.some.inj q).symm
    subst eu
    refine ⟨_, rfl, wpAny_letOwnedTupleGo_enum (s := { s with heap := h', toks := tk + 1 }) ho fun h2 he2 sb => ?_⟩
    have t2 : h2.get? s.heap.objs.size = some { cls := .type "tuple", data := .seq #[.int i tk, u'] } := (sb.2 _ (Nat.ne_of_gt el)).trans hT
    have new : ObjOk X.prog X.w (upd H s.heap.objs.size (.tup [.int (i : Nat), xs[i]])) h2 s.heap.objs.size (.tup [.int (i : Nat), xs[i]]) :=
      ⟨by show 2 ≤ sizeLine; decide, [.int i tk, u'], .cons ⟨_, rfl⟩ (.cons ru .nil), ⟨_, t2, rfl, _, rfl⟩⟩
    have away : ∀ b ob, b ∉ [e, it] → s.heap.get? b = some ob → h2.get? b = some ob := fun b ob hb q => by
      have b1 : b ≠ e := fun z => hb (by simp [z])
      have b2 : b ≠ it := fun z => hb (by simp [z])
      exact (sb.2 b b1).trans (hk b ob b1 b2 q)
    have J : Inv X pins σ (upd H s.heap.objs.size (.tup [.int (i : Nat), xs[i]])) { s with heap := h2, toks := tk + 1 } := I.turnedNew (ch := [e, it]) away hf (Nat.le_refl _) new
    refine ⟨.ref s.heap.objs.size, _, J, rfl, ⟨_, xs[i], rfl, I.hok.fresh (Nat.le_refl _), rfl, hx⟩, ⟨⟨u', ?_⟩, st'.1.at fun o q => (sb.2 it (Ne.symm hne)).trans q, hne, hai, hae⟩, fun b hb => ?_⟩
    · rw [show ((i + 1 : Nat) : Int) = (i : Int) + 1 by omega]
      exact he2
    · have hb' : b < s.heap.objs.size := by
        rcases List.mem_cons.1 hb with rfl | hb
        · exact el
        · rw [List.mem_singleton.1 hb]; exact il
      rw [upd_ne (Nat.ne_of_lt hb')]
      exact (hf b hb).1
  done := by
    intro X hP hw hK hc i pins s σ H E I hf st hg
    subst hP hw hK
    obtain ⟨⟨old, he⟩, hit, hne, hai, hae⟩ := st
    obtain ⟨hq, hi⟩ := hg
    obtain ⟨its, rv, pt, hz⟩ := I.tuple hq
    have hlen := rv.length
    have ei : i = its.toArray.size := by simp; omega
    obtain ⟨f0, f1, f2, f3, f4, f5⟩ := hf it (by simp)
    refine wpAny_pyNext_enum_endD (Draws.tuple (by simp [I.ok.hd hc]) it a hai its.toArray) he ⟨by rw [← ei]; exact hit, pt⟩ fun h' eb => ⟨rfl, ?_⟩
    exact I.turned (t' := s.toks) (fun b o hb q => eb b o hb q) f0 f1 f3 f4 f5
  self := fun A i s Q E st h => let ⟨⟨_, he⟩, _⟩ := st; wpAny_pyIter_enum he h
def iEnumT (K : PySem.W.Frag) (ta : TA) : TI := fun σ H R => ta σ H fun vs H1 => ∃ a xs, vs = [.ref a] ∧ SqT K H1 a xs ∧ R (IteT K a xs) H1
theorem pi_enumT {X : Cx} {e : Expr} {ta : TA} {p pos tpos : Pos} {elts : List Expr} {kk : Nat} (hg : Gl X "enumerate") (hm : X.mg "enumerate" = none) (ha : PA X [e] ta) (hs : starEach [e] X.env = [(false, eval e X.env)] := by rfl) :
    PI X (.Tuple elts kk tpos) (.Call (.Name "enumerate" p) [e] [] pos) (iEnumT X.K ta) := by
  refine ⟨fun pins s σ H R I h => Call_ (ld_blt I hg hm boot_enumerate (PyProof.Rows.callWith_type1 (thn (ha.run pos pins s σ H _ I h) fun us s1 ⟨vs, H1, I1, r1, q1⟩ => ?_) hs rfl))⟩
  obtain ⟨a, xs, rfl, hq, q⟩ := q1
  rw [Vals.ref1 r1]
  obtain ⟨its, rv, pt, hz⟩ := I1.tuple hq
  have al : a < s1.heap.objs.size := by
    obtain ⟨o, g, _⟩ := pt
    exact Heap.lt_size g
  refine call_enumT pt fun h' he hit kp => wpAny_pyIter_enum he ?_
  have I2 : Inv X pins σ H1 { s1 with heap := h' } := I1.kept (t' := s1.toks) kp
  refine ⟨s1.heap.objs.size + 1, [s1.heap.objs.size + 1, s1.heap.objs.size], _, _, H1, rfl, I2, turn_enumT a (s1.heap.objs.size + 1) s1.heap.objs.size, ⟨⟨.none, he⟩, hit, Nat.succ_ne_self _, Nat.ne_of_lt al, Nat.ne_of_lt (Nat.lt_succ_of_lt al)⟩, fun b hb => ?_, q⟩
  have hle : s1.heap.objs.size ≤ b := by
    rcases List.mem_cons.1 hb with rfl | hb
    · exact Nat.le_succ _
    · rw [List.mem_singleton.1 hb]; exact Nat.le_refl _
  exact I1.fpOk hle (I1.hok.fresh hle)

/-- enumerate of a list or of a tuple -/
def iEnum2 (K : PySem.W.Frag) (ta : TA) : TI := fun σ H R => ta σ H fun vs H1 => (∃ a xs, vs = [.ref a] ∧ SqL K H1 a xs ∧ R (Ite K a) H1) ∨ ∃ a xs, vs = [.ref a] ∧ SqT K H1 a xs ∧ R (IteT K a xs) H1
theorem pi_enum2 {X : Cx} {e : Expr} {ta : TA} {p pos tpos : Pos} {elts : List Expr} {kk : Nat} (hg : Gl X "enumerate") (hm : X.mg "enumerate" = none) (ha : PA X [e] ta) (hs : starEach [e] X.env = [(false, eval e X.env)] := by rfl) :
    PI X (.Tuple elts kk tpos) (.Call (.Name "enumerate" p) [e] [] pos) (iEnum2 X.K ta) := by
  refine ⟨fun pins s σ H R I h => Call_ (ld_blt I hg hm boot_enumerate (PyProof.Rows.callWith_type1 (thn (ha.run pos pins s σ H _ I h) fun us s1 ⟨vs, H1, I1, r1, q1⟩ => ?_) hs rfl))⟩
  have fresh : ∀ b ∈ [s1.heap.objs.size + 1, s1.heap.objs.size], FpOk X pins H1 b := fun b hb => by
    have hle : s1.heap.objs.size ≤ b := by
      rcases List.mem_cons.1 hb with rfl | hb
      · exact Nat.le_succ _
      · rw [List.mem_singleton.1 hb]; exact Nat.le_refl _
    exact I1.fpOk hle (I1.hok.fresh hle)
  rcases q1 with ⟨a, xs, rfl, hq, q⟩ | ⟨a, xs, rfl, hq, q⟩
  · rw [Vals.ref1 r1]
    obtain ⟨its, rv, pt, hz⟩ := I1.list hq
    refine call_enumerate_list pt.isList fun h' he hit hsz kp => wpAny_pyIter_enum he ?_
    exact ⟨s1.heap.objs.size + 1, [s1.heap.objs.size + 1, s1.heap.objs.size], _, _, H1, rfl, I1.kept (t' := s1.toks) kp, turn_enum a (s1.heap.objs.size + 1) s1.heap.objs.size, ⟨⟨.none, he⟩, hit, Nat.succ_ne_self _⟩, fresh, q⟩
  · rw [Vals.ref1 r1]
    obtain ⟨its, rv, pt, hz⟩ := I1.tuple hq
    have al : a < s1.heap.objs.size := by
      obtain ⟨o, g, _⟩ := pt
      exact Heap.lt_size g
    refine call_enumT pt fun h' he hit kp => wpAny_pyIter_enum he ?_
    exact ⟨s1.heap.objs.size + 1, [s1.heap.objs.size + 1, s1.heap.objs.size], _, _, H1, rfl, I1.kept (t' := s1.toks) kp, turn_enumT a (s1.heap.objs.size + 1) s1.heap.objs.size, ⟨⟨.none, he⟩, hit, Nat.succ_ne_self _, Nat.ne_of_lt al, Nat.ne_of_lt (Nat.lt_succ_of_lt al)⟩, fresh, q⟩
end VI

set_option maxRecDepth 100000
set_option maxHeartbeats 3200000
/-! VIZ: enumerate of a zip of two lists or tuples. -/
namespace VI
open PySem PySem.Spec PyProof.Rows L2 RZ
open AutoSeq1 (wpAny_loadPart')
section
variable {prog : Program} {w : World} {A : Around} {E : Value → Shared → Prop} {s : Shared} {q Ti To p1 p2 : Addr} {fa fb : List Addr} {na nb i : Nat} {Pa Pb : Nat → Value → Prop} {Ga Gb : Nat → Heap → Prop} {x : Value} {f : Bool}
/-- a zip; x: what it handed out last, if it knows; f: whether it saw that this is still held -/
def ZS (h : Heap) (q Ti To : Addr) (x : Value) (f : Bool) : Prop :=
  h.get? q = some { cls := .type "zip", dict := none, data := .fields #[x, .bool f, .bool false, .ref Ti, .ref To], slots := #[] }
def Lent (x : Value) : Prop := x = .none ∨ ∃ T : Addr, x = rawInt T
theorem zs_own {Q : Bool → Shared → Prop} (hq : ZS s.heap q Ti To x f) (hx : Lent x) (h1 : Q true s) (h2 : ∀ h', ZS h' q Ti To x true → Heap.SameBut q s.heap h' → Q false { s with heap := h' }) :
    wpAny (model prog w) A (Builtin.SmallTypes.ownedTupleIsFree (.ref q)) Q E s := by
  unfold Builtin.SmallTypes.ownedTupleIsFree
  rcases hx with rfl | ⟨T, rfl⟩
  · exact wpAny_bind (wpAny_field hq rfl (x := .none) rfl (wpAny_pure h1))
  · refine wpAny_bind (wpAny_field hq rfl (x := rawInt T) rfl ?_)
    show wpAny _ A (loadIfAlive ((T : Int).toNat) >>= fun o => _) Q E s
    rw [Int.toNat_natCast]
    refine wpAny_bind ?_
    have key : ∀ R : Option Obj → Shared → Prop, R (s.heap.get? T) s → wpAny (model prog w) A (loadIfAlive T) R E s := fun R h _ _ _ => h
    refine key _ ?_
    cases s.heap.get? T with
    | none => exact wpAny_pure h1
    | some o =>
      simp only [Option.isNone_some, Bool.false_eq_true, if_false]
      refine wpAny_bind (wpAny_field hq rfl (x := .bool f) rfl ?_)
      cases f with
      | true =>
        rw [if_neg (by decide)]
        exact wpAny_pure (h2 s.heap hq (Heap.SameBut.refl _ _))
      | false =>
        rw [if_pos (by decide)]
        exact wpAny_bind (wpAny_setField_rec hq (by simp) fun h' hq' hs => wpAny_pure (h2 h' hq' hs))
abbrev Two (h : Heap) (T : Addr) (a b : Value) : Prop := IsTupOf2 h T a b
/-- the zip's next pair, whether it was let go of the last one or not -/
theorem zs_item {Q : Value → Shared → Prop} (S : ZipSep2 q Ti To p1 p2 fa fb) (DA : Draws prog w A p1 fa na Pa Ga) (DB : Draws prog w A p2 fb nb Pb Gb)
    (hq : ZS s.heap q Ti To x f) (hx : Lent x) (hI : Two s.heap Ti (.ref p1) (.ref p2)) (hO : ∃ a b, Two s.heap To a b) (ga : Ga i s.heap) (gb : Gb i s.heap) (la : i < na) (lb : i < nb)
    (hQ : ∀ u v h' tk y g, Pa i u → Pb i v → ZS h' q Ti To y g → Lent y → (∃ a b, Two h' To a b) → Ga (i + 1) h' → Gb (i + 1) h' → Two h' s.heap.objs.size u v → h'.objs.size = s.heap.objs.size + 1 →
      (∀ c o, c ≠ q → c ≠ To → c ≠ p1 → c ≠ p2 → s.heap.get? c = some o → h'.get? c = some o) → Q (.ref s.heap.objs.size) { s with heap := h', toks := tk }) :
    wpAny (model prog w) A (Builtin.«zip.__next__» ⟨[.ref q], []⟩) (fun fin s' => ∃ v, fin = .done (.ret v) ∧ Q v s') E s := by
  obtain ⟨hp, gl, dr, t0, os⟩ := s
  obtain ⟨a0, b0, hO⟩ := hO
  show wpAny _ A (field (.ref q) 2 >>= fun y => _) _ E _
  refine wpAny_bind (wpAny_field hq rfl (x := .bool false) rfl ?_)
  show wpAny _ A (field (.ref q) 3 >>= fun y => _) _ E _
  refine wpAny_bind (wpAny_field hq rfl (x := .ref Ti) rfl (wpAny_bind (wpAny_seqItems hI rfl ?_)))
  show wpAny _ A (Builtin.SmallTypes.ownedTupleIsFree (.ref q) >>= fun y => _) _ E _
  refine wpAny_bind (zs_own hq hx ?_ fun h1 hq1 hs1 => ?_)
  · -- it was let go
    simp only [if_true]
    refine wpAny_bind (wpAny_rule (wpAny_bind (wpAny_field hq rfl (x := .ref To) rfl (wpAny_bind (wpAny_setField_rec hq (by simp) fun e0 hq0 hs0 => ?_)))))
    replace hq0 : ZS e0 q Ti To .ellipsis f := hq0
    replace hs0 : Heap.SameBut q hp e0 := hs0
    refine wpAny_bind ?_
    simp only [List.zipIdx_cons, List.zipIdx_nil, List.forIn_cons, List.forIn_nil]
    refine wpAny_bind (wpAny_bind (wpAny_onRaise ?_))
    show wpAny _ A (Builtin.SmallTypes.nextOf (.ref p1) >>= fun y => _) _ _ ⟨e0, gl, dr, t0, os⟩
    refine wpAny_bind (DA.item i _ _ _ la (DA.over ga hs0 S.zf1) fun u r1 k1 hu gu hr1 => wpAny_pure ?_)
    replace hr1 : Heap.SameBut p1 e0 r1 := hr1
    have hU1 : Two r1 To a0 b0 := hr1.extBut _ _ S.Ti1 (hs0.extBut _ _ S.TOz hO)
    refine wpAny_bind (wpAny_seqItems (s := ⟨r1, gl, dr, k1, os⟩) hU1 rfl (wpAny_bind (updateSeq_IsTupOf2 (s := ⟨r1, gl, dr, k1, os⟩) hU1 fun e1 hT1 hs1 => ?_)))
    replace hT1 : Two e1 To u b0 := hT1
    replace hs1 : Heap.SameBut To r1 e1 := hs1
    refine wpAny_bind (wpAny_letGo (wpAny_pure (wpAny_bind (wpAny_bind (wpAny_onRaise ?_)))))
    show wpAny _ A (Builtin.SmallTypes.nextOf (.ref p2) >>= fun y => _) _ _ ⟨e1, gl, dr, k1, os⟩
    refine wpAny_bind (DB.item i _ _ _ lb (DB.over (DB.over (DB.over gb hs0 S.zf2) hr1 S.sep1_2) hs1 S.Tf2) fun v r2 k2 hv gv hr2 => wpAny_pure ?_)
    replace hr2 : Heap.SameBut p2 e1 r2 := hr2
    have hU2 : Two r2 To u b0 := hr2.extBut _ _ S.Ti2 hT1
    refine wpAny_bind (wpAny_seqItems (s := ⟨r2, gl, dr, k2, os⟩) hU2 rfl (wpAny_bind (updateSeq_IsTupOf2 (s := ⟨r2, gl, dr, k2, os⟩) hU2 fun e2 hT2 hs2 => ?_)))
    replace hT2 : Two e2 To u v := hT2
    replace hs2 : Heap.SameBut To r2 e2 := hs2
    refine wpAny_bind (wpAny_letGo (wpAny_pure (wpAny_pure (wpAny_bind (wpAny_seqItems (s := ⟨e2, gl, dr, k2, os⟩) hT2 rfl (wpAny_bind (wpAny_newTuple ?_)))))))
    have hz : e2.objs.size = hp.objs.size := by rw [hs2.1, hr2.1, hs1.1, hr1.1, hs0.1]
    have hq2 : ZS e2 q Ti To .ellipsis f := hs2.extBut _ _ S.TOz.symm (hr2.extBut _ _ S.zi2 (hs1.extBut _ _ S.TOz.symm (hr1.extBut _ _ S.zi1 hq0)))
    have hk : ∀ c o, c ≠ q → c ≠ To → c ≠ p1 → c ≠ p2 → hp.get? c = some o → e2.get? c = some o := fun c o cq cT c1 c2 y =>
      hs2.extBut _ _ cT (hr2.extBut _ _ c2 (hs1.extBut _ _ cT (hr1.extBut _ _ c1 (hs0.extBut _ _ cq y))))
    have j1 : Ga (i + 1) e2 := DA.over (DA.over (DA.over gu hs1 S.Tf1) hr2 S.sep2_1) hs2 S.Tf1
    have j2 : Gb (i + 1) e2 := DB.over gv hs2 S.Tf2
    have ql : q < e2.objs.size := Heap.lt_size hq2
    show wpAny _ A (Builtin.SmallTypes.ownedTupleHandOut (.ref q) (.ref e2.objs.size) >>= fun y => _) _ E ⟨e2.push { cls := .type "tuple", data := .seq #[u, v] }, gl, dr, k2, os⟩
    refine wpAny_bind ?_
    unfold Builtin.SmallTypes.ownedTupleHandOut
    have hq3 : ZS (e2.push { cls := .type "tuple", data := .seq #[u, v] }) q Ti To .ellipsis f := Heap.get?_push_of_some _ hq2
    refine wpAny_bind (wpAny_setField_rec hq3 (by simp) fun e4 hq4 hs4 => ?_)
    replace hq4 : ZS e4 q Ti To (rawInt e2.objs.size) f := hq4
    refine wpAny_setField_rec hq4 (by simp) fun e5 hq5 hs5 => ?_
    replace hq5 : ZS e5 q Ti To (rawInt e2.objs.size) false := hq5
    replace hs4 : Heap.SameBut q (e2.push { cls := .type "tuple", data := .seq #[u, v] }) e4 := hs4
    replace hs5 : Heap.SameBut q e4 e5 := hs5
    have up : ∀ c o, c ≠ q → e2.get? c = some o → e5.get? c = some o := fun c o cq y => hs5.extBut _ _ cq (hs4.extBut _ _ cq (Heap.get?_push_of_some _ y))
    have hT5 : Two e5 e2.objs.size u v := hs5.extBut _ _ (Nat.ne_of_gt ql) (hs4.extBut _ _ (Nat.ne_of_gt ql) (Heap.get?_push_size _ rfl))
    have z5 : e5.objs.size = e2.objs.size + 1 := by rw [hs5.1, hs4.1, Heap.size_push]
    have hO5 : Two e5 To u v := up _ _ S.TOz hT2
    rw [hz] at hT5 z5
    refine wpAny_pure ⟨_, rfl, ?_⟩
    show Q (.ref e2.objs.size) ⟨e5, gl, dr, k2, os⟩
    rw [hz]
    exact hQ u v e5 k2 (rawInt e2.objs.size) false hu hv hq5 (.inr ⟨_, rfl⟩) ⟨u, v, hO5⟩ (DA.frame _ _ _ j1 fun b hb o y => up b o (fun n => S.zf1 (n ▸ hb)) y) (DB.frame _ _ _ j2 fun b hb o y => up b o (fun n => S.zf2 (n ▸ hb)) y) hT5 z5 fun c o cq cT c1 c2 y => up c o cq (hk c o cq cT c1 c2 y)
  · -- it is still held
    replace hs1 : Heap.SameBut q hp h1 := hs1
    simp only [Bool.false_eq_true, if_false]
    refine wpAny_bind ?_
    rw [← Array.forIn_toList]
    simp only [List.forIn_cons, List.forIn_nil]
    refine wpAny_bind (wpAny_bind (wpAny_holding ?_))
    show wpAny _ A (Builtin.SmallTypes.nextOf (.ref p1) >>= fun y => _) _ _ _
    refine wpAny_bind (DA.item i ⟨h1, gl, dr, t0, os⟩ _ _ la (DA.over ga hs1 S.zf1) fun u r1 k1 hu gu hr1 => wpAny_pure (wpAny_pure (wpAny_bind (wpAny_bind (wpAny_holding ?_)))))
    replace hr1 : Heap.SameBut p1 h1 r1 := hr1
    show wpAny _ A (Builtin.SmallTypes.nextOf (.ref p2) >>= fun y => _) _ _ _
    refine wpAny_bind (DB.item i ⟨r1, gl, dr, k1, os⟩ _ _ lb (DB.over (DB.over gb hs1 S.zf2) hr1 S.sep1_2) fun v r2 k2 hv gv hr2 => wpAny_pure (wpAny_pure (wpAny_pure ?_)))
    replace hr2 : Heap.SameBut p2 r1 r2 := hr2
    show wpAny _ A (newTuple [u, v] >>= fun y => _) _ E _
    refine wpAny_bind (wpAny_newTuple (wpAny_pure ⟨_, rfl, ?_⟩))
    have hz : r2.objs.size = hp.objs.size := by rw [hr2.1, hr1.1, hs1.1]
    have hq2 : ZS r2 q Ti To x true := hr2.extBut _ _ S.zi2 (hr1.extBut _ _ S.zi1 hq1)
    have hO2 : Two r2 To a0 b0 := hr2.extBut _ _ S.Ti2 (hr1.extBut _ _ S.Ti1 (hs1.extBut _ _ S.TOz hO))
    have hk : ∀ c o, c ≠ q → c ≠ p1 → c ≠ p2 → hp.get? c = some o → r2.get? c = some o := fun c o cq c1 c2 y => hr2.extBut _ _ c2 (hr1.extBut _ _ c1 (hs1.extBut _ _ cq y))
    have hT5 : Two (r2.push { cls := .type "tuple", data := .seq #[u, v] }) r2.objs.size u v := Heap.get?_push_size _ rfl
    have z5 : (r2.push { cls := .type "tuple", data := .seq #[u, v] }).objs.size = r2.objs.size + 1 := Heap.size_push ..
    have up : ∀ c o, r2.get? c = some o → (r2.push { cls := .type "tuple", data := .seq #[u, v] }).get? c = some o := fun c o y => Heap.get?_push_of_some _ y
    show Q (.ref r2.objs.size) ⟨r2.push { cls := .type "tuple", data := .seq #[u, v] }, gl, dr, k2, os⟩
    rw [hz] at hT5 z5 ⊢
    exact hQ u v _ k2 x true hu hv (up _ _ hq2) hx ⟨a0, b0, up _ _ hO2⟩ (DA.frame _ _ _ (DA.over gu hr2 S.sep2_1) fun b hb o y => up b o y) (DB.frame _ _ _ gv fun b hb o y => up b o y) hT5 z5 fun c o cq cT c1 c2 y => up c o (hk c o cq c1 c2 y)
/-- where one of them has no more -/
theorem zs_end {Q : Fin → Shared → Prop} (S : ZipSep2 q Ti To p1 p2 fa fb) (DA : Draws prog w A p1 fa na Pa Ga) (DB : Draws prog w A p2 fb nb Pb Gb)
    (hq : ZS s.heap q Ti To x f) (hx : Lent x) (hI : Two s.heap Ti (.ref p1) (.ref p2)) (hO : ∃ a b, Two s.heap To a b) (ga : Ga i s.heap) (gb : Gb i s.heap) (la : i ≤ na) (lb : i ≤ nb) (he : i = na ∨ i = nb)
    (hE : ∀ h' tk e, (∀ c o, c ≠ q → c ≠ To → c ≠ p1 → c ≠ p2 → s.heap.get? c = some o → h'.get? c = some o) → (∃ o, h'.get? e = some o ∧ o.cls = .type "StopIteration") → E (.ref e) { s with heap := h', toks := tk }) :
    wpAny (model prog w) A (Builtin.«zip.__next__» ⟨[.ref q], []⟩) Q E s := by
  obtain ⟨hp, gl, dr, t0, os⟩ := s
  obtain ⟨a0, b0, hO⟩ := hO
  show wpAny _ A (field (.ref q) 2 >>= fun y => _) Q E _
  refine wpAny_bind (wpAny_field hq rfl (x := .bool false) rfl ?_)
  show wpAny _ A (field (.ref q) 3 >>= fun y => _) Q E _
  refine wpAny_bind (wpAny_field hq rfl (x := .ref Ti) rfl (wpAny_bind (wpAny_seqItems hI rfl ?_)))
  show wpAny _ A (Builtin.SmallTypes.ownedTupleIsFree (.ref q) >>= fun y => _) Q E _
  refine wpAny_bind (zs_own hq hx ?_ fun h1 hq1 hs1 => ?_)
  · simp only [if_true]
    refine wpAny_bind (wpAny_rule (wpAny_bind (wpAny_field hq rfl (x := .ref To) rfl (wpAny_bind (wpAny_setField_rec hq (by simp) fun e0 hq0 hs0 => ?_)))))
    replace hq0 : ZS e0 q Ti To .ellipsis f := hq0
    replace hs0 : Heap.SameBut q hp e0 := hs0
    refine wpAny_bind ?_
    simp only [List.zipIdx_cons, List.zipIdx_nil, List.forIn_cons, List.forIn_nil]
    refine wpAny_bind (wpAny_bind (wpAny_onRaise ?_))
    show wpAny _ A (Builtin.SmallTypes.nextOf (.ref p1) >>= fun y => _) _ _ ⟨e0, gl, dr, t0, os⟩
    by_cases l1 : i < na
    · refine wpAny_bind (DA.item i _ _ _ l1 (DA.over ga hs0 S.zf1) fun u r1 k1 hu gu hr1 => wpAny_pure ?_)
      replace hr1 : Heap.SameBut p1 e0 r1 := hr1
      have hU1 : Two r1 To a0 b0 := hr1.extBut _ _ S.Ti1 (hs0.extBut _ _ S.TOz hO)
      refine wpAny_bind (wpAny_seqItems (s := ⟨r1, gl, dr, k1, os⟩) hU1 rfl (wpAny_bind (updateSeq_IsTupOf2 (s := ⟨r1, gl, dr, k1, os⟩) hU1 fun e1 hT1 hs1 => ?_)))
      replace hs1 : Heap.SameBut To r1 e1 := hs1
      have n2 : i = nb := by omega
      refine wpAny_bind (wpAny_letGo (wpAny_pure (wpAny_bind (wpAny_bind (wpAny_onRaise ?_)))))
      show wpAny _ A (Builtin.SmallTypes.nextOf (.ref p2) >>= fun y => _) _ _ ⟨e1, gl, dr, k1, os⟩
      refine wpAny_bind (DB.done ⟨e1, gl, dr, k1, os⟩ _ _ (by rw [← n2]; exact DB.over (DB.over (DB.over gb hs0 S.zf2) hr1 S.sep1_2) hs1 S.Tf2) fun r2 e hr2 hx2 => ?_)
      replace hr2 : Heap.ExtBut p2 e1 r2 := hr2
      obtain ⟨oe, ho, hc⟩ := hx2
      replace ho : r2.get? e = some oe := ho
      have hq2 : ZS r2 q Ti To .ellipsis f := hr2 _ _ S.zi2 (hs1.extBut _ _ S.TOz.symm (hr1.extBut _ _ S.zi1 hq0))
      have heq : e ≠ q := fun n => by subst n; rw [show r2.get? e = _ from hq2] at ho; cases ho; simp at hc
      refine wpAny_setField_rec (s := ⟨r2, gl, dr, k1, os⟩) hq2 (by simp) fun r3 _ hr3 => ?_
      replace hr3 : Heap.SameBut q r2 r3 := hr3
      exact hE r3 k1 e (fun c o cq cT c1 c2 y => hr3.extBut _ _ cq (hr2 _ _ c2 (hs1.extBut _ _ cT (hr1.extBut _ _ c1 (hs0.extBut _ _ cq y))))) ⟨oe, hr3.extBut _ _ heq ho, hc⟩
    · have n1 : i = na := by omega
      refine wpAny_bind (DA.done ⟨e0, gl, dr, t0, os⟩ _ _ (by rw [← n1]; exact DA.over ga hs0 S.zf1) fun r2 e hr2 hx2 => ?_)
      replace hr2 : Heap.ExtBut p1 e0 r2 := hr2
      obtain ⟨oe, ho, hc⟩ := hx2
      replace ho : r2.get? e = some oe := ho
      have hq2 : ZS r2 q Ti To .ellipsis f := hr2 _ _ S.zi1 hq0
      have heq : e ≠ q := fun n => by subst n; rw [show r2.get? e = _ from hq2] at ho; cases ho; simp at hc
      refine wpAny_setField_rec (s := ⟨r2, gl, dr, t0, os⟩) hq2 (by simp) fun r3 _ hr3 => ?_
      replace hr3 : Heap.SameBut q r2 r3 := hr3
      exact hE r3 t0 e (fun c o cq cT c1 c2 y => hr3.extBut _ _ cq (hr2 _ _ c1 (hs0.extBut _ _ cq y))) ⟨oe, hr3.extBut _ _ heq ho, hc⟩
  · replace hs1 : Heap.SameBut q hp h1 := hs1
    simp only [Bool.false_eq_true, if_false]
    refine wpAny_bind ?_
    rw [← Array.forIn_toList]
    simp only [List.forIn_cons, List.forIn_nil]
    refine wpAny_bind (wpAny_bind (wpAny_holding ?_))
    show wpAny _ A (Builtin.SmallTypes.nextOf (.ref p1) >>= fun y => _) _ _ _
    by_cases l1 : i < na
    · refine wpAny_bind (DA.item i ⟨h1, gl, dr, t0, os⟩ _ _ l1 (DA.over ga hs1 S.zf1) fun u r1 k1 hu gu hr1 => wpAny_pure (wpAny_pure (wpAny_bind (wpAny_bind (wpAny_holding ?_)))))
      replace hr1 : Heap.SameBut p1 h1 r1 := hr1
      have n2 : i = nb := by omega
      show wpAny _ A (Builtin.SmallTypes.nextOf (.ref p2) >>= fun y => _) _ _ _
      refine wpAny_bind (DB.done ⟨r1, gl, dr, k1, os⟩ _ _ (by rw [← n2]; exact DB.over (DB.over gb hs1 S.zf2) hr1 S.sep1_2) fun r2 e hr2 hx2 => ?_)
      exact hE r2 k1 e (fun c o cq cT c1 c2 y => hr2 _ _ c2 (hr1.extBut _ _ c1 (hs1.extBut _ _ cq y))) hx2
    · have n1 : i = na := by omega
      refine wpAny_bind (DA.done ⟨h1, gl, dr, t0, os⟩ _ _ (by rw [← n1]; exact DA.over ga hs1 S.zf1) fun r2 e hr2 hx2 => ?_)
      exact hE r2 t0 e (fun c o cq cT c1 c2 y => hr2 _ _ c1 (hs1.extBut _ _ cq y)) hx2
/-- what enumerate does with what comes -/
theorem en_next {e z : Addr} {n : Nat} {old : Value} {N Q : Value → Shared → Prop} (he : IsEnum s.heap e z n old) (hn : wpAny (model prog w) A (Builtin.SmallTypes.nextOf (.ref z)) N E s)
    (hN : ∀ v s1, N v s1 → IsEnum s1.heap e z n old ∧ ∀ h', IsEnumOut h' e z ((n : Int) + 1) v s1.heap.objs.size → h'.get? s1.heap.objs.size = some { cls := .type "tuple", data := .seq #[.int n s1.toks, v] } →
      h'.objs.size = s1.heap.objs.size + 1 → (∀ b o, b ≠ e → s1.heap.get? b = some o → h'.get? b = some o) → Q (.ref s1.heap.objs.size) { s1 with heap := h', toks := s1.toks + 1 }) :
    wpAny (model prog w) A (Builtin.«enumerate.__next__» ⟨[.ref e], []⟩) (fun fin s' => ∃ v, fin = .done (.ret v) ∧ Q v s') E s := by
  show wpAny _ A (field (.ref e) 2 >>= fun y => _) _ E _
  refine wpAny_bind (wpAny_field he rfl (x := .ref z) rfl (wpAny_bind (wpAny_mono hn (fun v s1 hv => ?_) fun _ _ y => y)))
  obtain ⟨he1, hQ⟩ := hN v s1 hv
  obtain ⟨hp, gl, dr, tk, os⟩ := s1
  show wpAny _ A (field (.ref e) 3 >>= fun y => _) _ E ⟨hp, gl, dr, tk, os⟩
  refine wpAny_bind (wpAny_field he1 rfl (x := rawInt n) rfl ?_)
  show wpAny _ A (field (.ref e) 4 >>= fun y => _) _ E ⟨hp, gl, dr, tk, os⟩
  refine wpAny_bind (wpAny_field he1 rfl (x := .none) rfl ?_)
  show wpAny _ A (mkInt n >>= fun y => _) _ E ⟨hp, gl, dr, tk, os⟩
  refine wpAny_bind (wpAny_mkInt ?_)
  show wpAny _ A (setField (.ref e) 3 (rawInt ((n : Int) + 1)) >>= fun y => _) _ E ⟨hp, gl, dr, tk + 1, os⟩
  refine wpAny_bind (wpAny_setField_rec he1 (by simp) fun a2 he2 hs2 => ?_)
  replace hs2 : Heap.SameBut e hp a2 := hs2
  replace he2 : IsEnum a2 e z ((n : Int) + 1) old := he2
  show wpAny _ A (setField (.ref e) 4 .none >>= fun y => _) _ E ⟨a2, gl, dr, tk + 1, os⟩
  refine wpAny_bind (wpAny_setField_rec he2 (by simp) fun a3 he3 hs3 => ?_)
  replace hs3 : Heap.SameBut e a2 a3 := hs3
  replace he3 : IsEnum a3 e z ((n : Int) + 1) old := he3
  show wpAny _ A (newTuple [.int n tk, v] >>= fun y => _) _ E ⟨a3, gl, dr, tk + 1, os⟩
  refine wpAny_bind (wpAny_newTuple ?_)
  have z3 : a3.objs.size = hp.objs.size := by rw [hs3.1, hs2.1]
  have el : e < hp.objs.size := Heap.lt_size he1
  have ht4 : (a3.push { cls := .type "tuple", data := .seq #[.int n tk, v] }).get? hp.objs.size = some { cls := .type "tuple", data := .seq #[.int n tk, v] } := by
    have := Heap.get?_push_size a3 (o := { cls := .type "tuple", data := .seq #[.int n tk, v] }) rfl
    rwa [z3] at this
  have he4 : IsEnum (a3.push { cls := .type "tuple", data := .seq #[.int n tk, v] }) e z ((n : Int) + 1) old := Heap.get?_push_of_some _ he3
  have z4 : (a3.push { cls := .type "tuple", data := .seq #[.int n tk, v] }).objs.size = hp.objs.size + 1 := by rw [Heap.size_push, z3]
  have k4 : ∀ b o, b ≠ e → hp.get? b = some o → (a3.push { cls := .type "tuple", data := .seq #[.int n tk, v] }).get? b = some o := fun b o hb y => Heap.get?_push_of_some _ (hs3.extBut b o hb (hs2.extBut b o hb y))
  rw [z3]
  generalize a3.push { cls := .type "tuple", data := .seq #[.int n tk, v] } = a4 at ht4 he4 z4 k4
  show wpAny _ A (Builtin.SmallTypes.ownedTupleIsFree (.ref e) >>= fun y => _) _ E ⟨a4, gl, dr, tk + 1, os⟩
  refine wpAny_bind ?_
  unfold Builtin.SmallTypes.ownedTupleIsFree
  refine wpAny_bind (wpAny_field he4 rfl (x := .none) rfl (wpAny_pure ?_))
  simp only [if_true]
  refine wpAny_bind (wpAny_rule (wpAny_bind (wpAny_field he4 rfl (x := old) rfl (wpAny_bind (wpAny_setField_rec he4 (by simp) fun a5 he5 hs5 => ?_)))))
  replace hs5 : Heap.SameBut e a4 a5 := hs5
  replace he5 : IsEnum a5 e z ((n : Int) + 1) v := he5
  show wpAny _ A (Builtin.SmallTypes.ownedTupleHandOut (.ref e) (.ref hp.objs.size) >>= fun y => _) _ E ⟨a5, gl, dr, tk + 1, os⟩
  refine wpAny_bind ?_
  unfold Builtin.SmallTypes.ownedTupleHandOut
  refine wpAny_bind (wpAny_setField_rec he5 (by simp) fun a6 he6 hs6 => ?_)
  replace hs6 : Heap.SameBut e a5 a6 := hs6
  replace he6 : IsEnumOut a6 e z ((n : Int) + 1) v hp.objs.size := he6
  refine wpAny_setField_rec he6 (by simp) fun a7 he7 hs7 => ?_
  replace hs7 : Heap.SameBut e a6 a7 := hs7
  replace he7 : IsEnumOut a7 e z ((n : Int) + 1) v hp.objs.size := he7
  have k7 : ∀ b o, b ≠ e → a4.get? b = some o → a7.get? b = some o := fun b o hb y => hs7.extBut b o hb (hs6.extBut b o hb (hs5.extBut b o hb y))
  refine wpAny_bind (wpAny_letGo (wpAny_pure ⟨_, rfl, hQ a7 he7 (k7 _ _ (Nat.ne_of_gt el) ht4) ?_ fun b o hb y => k7 b o hb (k4 b o hb y)⟩))
  show a7.objs.size = hp.objs.size + 1
  rw [hs7.1, hs6.1, hs5.1, z4]
theorem en_pyNext {e z : Addr} {n : Nat} {old : Value} {N : Value → Shared → Prop} {Q : Option Value → Shared → Prop} (he : IsEnum s.heap e z n old) (hn : ∀ E, wpAny (model prog w) A.in1 (Builtin.SmallTypes.nextOf (.ref z)) N E s)
    (hN : ∀ v s1, N v s1 → IsEnum s1.heap e z n old ∧ ∀ h', IsEnumOut h' e z ((n : Int) + 1) v s1.heap.objs.size → h'.get? s1.heap.objs.size = some { cls := .type "tuple", data := .seq #[.int n s1.toks, v] } →
      h'.objs.size = s1.heap.objs.size + 1 → (∀ b o, b ≠ e → s1.heap.get? b = some o → h'.get? b = some o) → Q (some (.ref s1.heap.objs.size)) { s1 with heap := h', toks := s1.toks + 1 }) :
    wpAny (model prog w) A (pyNext (.ref e)) Q E s := by
  have hT : s.TypeIs (.ref e) "enumerate" := ⟨_, he, rfl⟩
  unfold pyNext
  refine wpAny_bind (wpAny_attempt (wpAny_callSpecial?_slot (name := Str.ofString "__next__") hT F.slot_enumerate_next (wpAny_call_entry F.slot_enumerate_next hT F.entry_enumerate_next ?_ (F.args_enumerate_next_1 _))))
  refine en_next he (hn _) fun v s1 hv => ?_
  obtain ⟨h1, h2⟩ := hN v s1 hv
  exact ⟨h1, fun h' a b c d => wpAny_pure (h2 h' a b c d)⟩
theorem zs_nextOf {Q : Value → Shared → Prop} {x : Value} (hq : ZS s.heap q Ti To x f) (h : wpAny (model prog w) A.in1 (Builtin.«zip.__next__» ⟨[.ref q], []⟩) (fun fin s' => ∃ v, fin = .done (.ret v) ∧ Q v s') E s) :
    wpAny (model prog w) A (Builtin.SmallTypes.nextOf (.ref q)) Q E s := by
  have hT : s.TypeIs (.ref q) "zip" := ⟨_, hq, rfl⟩
  unfold Builtin.SmallTypes.nextOf
  refine wpAny_bind (wpAny_callSpecial?_slot (name := Str.ofString "__next__") hT F.slot_zip_next (wpAny_call_entry F.slot_zip_next hT F.entry_zip_next ?_ (F.args_zip_next_1 _)))
  exact wpAny_mono h (fun fin s1 ⟨v, e1, k⟩ => ⟨v, e1, wpAny_pure k⟩) fun _ _ y => y
theorem zs_none {e : Addr} {n : Nat} {old : Value} {Q : Option Value → Shared → Prop} (he : IsEnum s.heap e q n old) (hq : ZS s.heap q Ti To x f)
    (h : ∀ E, (∀ ex s1, (∃ o, s1.heap.get? ex = some o ∧ o.cls = .type "StopIteration") → Q none s1 → E (.ref ex) s1) → wpAny (model prog w) A.in1.in1 (Builtin.«zip.__next__» ⟨[.ref q], []⟩) (fun fin s' => ∃ v, fin = .done (.ret v) ∧ False) E s) : wpAny (model prog w) A (pyNext (.ref e)) Q E s := by
  have hT : s.TypeIs (.ref e) "enumerate" := ⟨_, he, rfl⟩
  unfold pyNext
  refine wpAny_bind (wpAny_attempt (wpAny_callSpecial?_slot (name := Str.ofString "__next__") hT F.slot_enumerate_next (wpAny_call_entry F.slot_enumerate_next hT F.entry_enumerate_next ?_ (F.args_enumerate_next_1 _))))
  show wpAny _ _ (field (.ref e) 2 >>= fun y => _) _ _ _
  refine wpAny_bind (wpAny_field he rfl (x := .ref q) rfl (wpAny_bind (zs_nextOf hq (wpAny_mono (h _ ?_) (fun fin s1 ⟨v, e1, k⟩ => k.elim) fun _ _ y => y))))
  intro ex s1 hx hQ
  obtain ⟨o, ho, hc⟩ := hx
  refine wpAny_bind (wpAny_isInstance (T := "StopIteration") (b := true) ⟨o, ho, hc⟩ isSubtype_stop ?_)
  exact wpAny_pure hQ
end
/-- lists (false) or tuples (true) -/
def sqAt (t : Bool) (K : PySem.W.Frag) (H : Hp) (a : Addr) (xs : List V) : Prop := if t then SqT K H a xs else SqL K H a xs
def atIs (t : Bool) (h : Heap) (a : Addr) (its : Array Value) : Prop := if t then h.IsTuple a its else h.IsList a its
def itAt (t : Bool) (h : Heap) (p a : Addr) (i : Nat) : Prop := if t then h.IsTupleIter p a i else h.IsListIter p a i
theorem dr_of {prog : Program} {w : World} {A : Around} (t : Bool) (hh : A.handled = none) (p a : Addr) (hne : a ≠ p) (its : Array Value) : Draws prog w A p [p, a] its.size (fun i v => its[i]? = some v) (fun i h => itAt t h p a i ∧ atIs t h a its) := by
  cases t
  · exact Draws.list hh p a hne its
  · exact Draws.tuple hh p a hne its
theorem sq_of {X : Cx} {pins : List (Addr × Obj)} {σ : L2.St} {H : Hp} {s : Shared} {t : Bool} {a : Addr} {xs : List V} (I : Inv X pins σ H s) (h : sqAt t X.K H a xs) : ∃ its : List Value, Vals xs its ∧ atIs t s.heap a its.toArray := by
  cases t
  · obtain ⟨its, rv, p, _⟩ := I.list h
    exact ⟨its, rv, p.isList⟩
  · obtain ⟨its, rv, p, _⟩ := I.tuple h
    exact ⟨its, rv, p⟩
theorem sq_inj {X : Cx} {pins : List (Addr × Obj)} {σ : L2.St} {H : Hp} {s : Shared} {t : Bool} {a : Addr} {xs ys : List V} (I : Inv X pins σ H s) (h : sqAt t X.K H a xs) (h' : sqAt t X.K H a ys) : xs = ys := by
  cases t
  · exact I.list_inj h h'
  · exact I.tuple_inj h h'
theorem itAt.keep {t : Bool} {h h' : Heap} {p a : Addr} {i : Nat} (x : itAt t h p a i) (k : ∀ o, h.get? p = some o → h'.get? p = some o) : itAt t h' p a i := by
  cases t
  · exact (show h.IsListIter p a i from x).at fun o q => k o q
  · exact (show h.IsTupleIter p a i from x).at fun o q => k o q
theorem itAt.ob {t : Bool} {h : Heap} {p a : Addr} {i : Nat} (x : itAt t h p a i) : ∃ o, h.get? p = some o ∧ ∀ v, o.data ≠ .cell v := by
  cases t
  · obtain ⟨o, ho, _, hd⟩ := (show h.IsListIter p a i from x)
    exact ⟨o, ho, fun v q => by rw [hd] at q; cases q⟩
  · obtain ⟨o, ho, _, hd⟩ := (show h.IsTupleIter p a i from x)
    exact ⟨o, ho, fun v q => by rw [hd] at q; cases q⟩
/-- number and pair, in two new tuples -/
def ItE (K : PySem.W.Frag) (t : Bool) (a b : Addr) : It :=
  ⟨fun i H => ∃ (xs ys : List V) (x y : V), sqAt t K H a xs ∧ sqAt t K H b ys ∧ xs[i]? = some x ∧ ys[i]? = some y,
    fun i H v H' => ∃ (T U : Addr) (x y : V), v = .ref T ∧ H U = none ∧ H T = none ∧ T ≠ U ∧ H' = upd (upd H U (.tup [x, y])) T (.tup [.int (i : Nat), .ref U]) ∧ (∀ xs, sqAt t K H a xs → xs[i]? = some x) ∧ ∀ ys, sqAt t K H b ys → ys[i]? = some y,
    fun i H => ∃ xs ys : List V, sqAt t K H a xs ∧ sqAt t K H b ys ∧ i = min xs.length ys.length⟩
structure Apart6 (e q Ti To p1 p2 a b : Addr) : Prop where
  S : ZipSep2 q Ti To p1 p2 [p1, a] [p2, b]
  eq : e ≠ q
  eI : e ≠ Ti
  eO : e ≠ To
  e1 : e ≠ p1
  e2 : e ≠ p2
  ap : a ≠ p1
  bp : b ≠ p2
theorem turn_enz {P : Program} {w : World} {K : PySem.W.Frag} {elts : List Expr} {kk : Nat} {tpos : Pos} {t : Bool} {e q Ti To p1 p2 a b : Addr} (D : Apart6 e q Ti To p1 p2 a b) :
    Turn P w K (.Tuple elts kk tpos) (ItE K t a b) [e, q, Ti, To, p1, p2] e fun i h => (∃ old, IsEnum h e q ((i : Nat) : Int) old) ∧ (∃ x f, ZS h q Ti To x f ∧ Lent x) ∧ Two h Ti (.ref p1) (.ref p2) ∧ (∃ c d, Two h To c d) ∧ itAt t h p1 a i ∧ itAt t h p2 b i where
  mem := List.mem_cons_self ..
  obj := fun i h st c hc => by
    obtain ⟨⟨old, he⟩, ⟨x, f, hq, _⟩, hI, ⟨c', d', hO⟩, h1, h2⟩ := st
    simp only [List.mem_cons, List.not_mem_nil, or_false] at hc
    rcases hc with rfl | rfl | rfl | rfl | rfl | rfl
    · exact ⟨_, he, fun v z => nomatch z⟩
    · exact ⟨_, hq, fun v z => nomatch z⟩
    · exact ⟨_, hI, fun v z => nomatch z⟩
    · exact ⟨_, hO, fun v z => nomatch z⟩
    · exact h1.ob
    · exact h2.ob
  keep := fun i h h' st k => by
    obtain ⟨⟨old, he⟩, ⟨x, f, hq, hx⟩, hI, ⟨c', d', hO⟩, h1, h2⟩ := st
    exact ⟨⟨old, k e (by simp) _ he⟩, ⟨x, f, k q (by simp) _ hq, hx⟩, k Ti (by simp) _ hI, ⟨c', d', k To (by simp) _ hO⟩, h1.keep fun o z => k p1 (by simp) o z, h2.keep fun o z => k p2 (by simp) o z⟩
  item := by
    intro X hP hw hK hc i pins s σ H E I hf st hg
    subst hP hw hK
    obtain ⟨⟨old, he⟩, ⟨x, f, hq, hx⟩, hI, hO, h1, h2⟩ := st
    obtain ⟨xs, ys, vx, vy, qa, qb, ex, ey⟩ := hg
    obtain ⟨la, ra, pa⟩ := sq_of I qa
    obtain ⟨lb, rb, pb⟩ := sq_of I qb
    obtain ⟨ua, hua, rua⟩ := ra.get ex
    obtain ⟨ub, hub, rub⟩ := rb.get ey
    have hA : i < la.toArray.size := by simpa using (List.getElem?_eq_some_iff.mp hua).1
    have hB : i < lb.toArray.size := by simpa using (List.getElem?_eq_some_iff.mp hub).1
    have hd := I.ok.hd hc
    have S := D.S
    have el : e < s.heap.objs.size := Heap.lt_size he
    have ql : q < s.heap.objs.size := Heap.lt_size hq
    have Il : Ti < s.heap.objs.size := Heap.lt_size hI
    have Ol : To < s.heap.objs.size := by obtain ⟨_, _, z⟩ := hO; exact Heap.lt_size z
    have l1 : p1 < s.heap.objs.size := by obtain ⟨_, z, _⟩ := h1.ob; exact Heap.lt_size z
    have l2 : p2 < s.heap.objs.size := by obtain ⟨_, z, _⟩ := h2.ob; exact Heap.lt_size z
    have out : ∀ c ∈ [e, q, Ti, To, p1, p2], c < s.heap.objs.size := fun c hcm => by
      simp only [List.mem_cons, List.not_mem_nil, or_false] at hcm
      rcases hcm with rfl | rfl | rfl | rfl | rfl | rfl <;> assumption
    refine en_pyNext (A := X.A) he (N := fun v s1 => ∃ h' tk y g, v = .ref s.heap.objs.size ∧ s1 = { s with heap := h', toks := tk } ∧ ZS h' q Ti To y g ∧ Lent y ∧ (∃ a b, Two h' To a b) ∧ itAt t h' p1 a (i + 1) ∧ itAt t h' p2 b (i + 1) ∧ Two h' s.heap.objs.size ua ub ∧
      h'.objs.size = s.heap.objs.size + 1 ∧ ∀ c o, c ≠ q → c ≠ To → c ≠ p1 → c ≠ p2 → s.heap.get? c = some o → h'.get? c = some o) (fun E' => zs_nextOf hq (zs_item S (dr_of t (by simp [hd]) p1 a D.ap la.toArray) (dr_of t (by simp [hd]) p2 b D.bp lb.toArray) hq hx hI hO ⟨h1, pa⟩ ⟨h2, pb⟩ hA hB fun u v h' tk y g hu hv hq' hy hO' ga gb hT hz hk => ?_)) ?_
    · have e1 : u = ua := by
        have z : la[i]? = some u := by simpa using hu
        rw [hua] at z; exact (Option.some.inj z).symm
      have e2 : v = ub := by
        have z : lb[i]? = some v := by simpa using hv
        rw [hub] at z; exact (Option.some.inj z).symm
      subst e1 e2
      exact ⟨h', tk, y, g, rfl, rfl, hq', hy, hO', ga.1, gb.1, hT, hz, hk⟩
    · rintro v s1 ⟨h', tk, y, g, rfl, rfl, hq', hy, hO', ga, gb, hT, hz, hk⟩
      have he' : IsEnum h' e q i old := hk _ _ D.eq D.eO D.e1 D.e2 he
      refine ⟨he', fun h3 ho ht hz3 hk3 => ⟨_, rfl, wpAny_letOwnedTupleGo_enum (s := { s with heap := h3, toks := tk + 1 }) ho fun h4 he4 sb => ?_⟩⟩
      replace hz3 : h3.objs.size = h'.objs.size + 1 := hz3
      replace ht : h3.get? h'.objs.size = some { cls := .type "tuple", data := .seq #[.int i tk, .ref s.heap.objs.size] } := ht
      replace sb : Heap.SameBut e h3 h4 := sb
      have k4 : ∀ c o, c ≠ e → h'.get? c = some o → h4.get? c = some o := fun c o ce z => sb.extBut _ _ ce (hk3 c o ce z)
      have newU : ObjOk X.prog X.w (upd H s.heap.objs.size (.tup [vx, vy])) h' s.heap.objs.size (.tup [vx, vy]) :=
        ⟨by show 2 ≤ sizeLine; decide, [ua, ub], .cons rua (.cons rub .nil), ⟨_, hT, rfl, _, rfl⟩⟩
      have I1 : Inv X pins σ (upd H s.heap.objs.size (.tup [vx, vy])) { s with heap := h', toks := tk } :=
        I.turnedNew (ch := [q, To, p1, p2]) (fun c o hb z => hk c o (fun y => hb (by simp [y])) (fun y => hb (by simp [y])) (fun y => hb (by simp [y])) (fun y => hb (by simp [y])) z)
          (fun c hcm => hf c (by simp only [List.mem_cons, List.not_mem_nil, or_false] at hcm ⊢; rcases hcm with rfl | rfl | rfl | rfl <;> simp)) (Nat.le_refl _) newU
      have ht4 : h4.get? h'.objs.size = some { cls := .type "tuple", data := .seq #[.int i tk, .ref s.heap.objs.size] } := sb.extBut _ _ (by rw [hz]; exact Nat.ne_of_gt (Nat.lt_succ_of_lt el)) ht
      have newT : ObjOk X.prog X.w (upd (upd H s.heap.objs.size (.tup [vx, vy])) h'.objs.size (.tup [.int (i : Nat), .ref s.heap.objs.size])) h4 h'.objs.size (.tup [.int (i : Nat), .ref s.heap.objs.size]) :=
        ⟨by show 2 ≤ sizeLine; decide, [.int i tk, .ref s.heap.objs.size], .cons ⟨_, rfl⟩ (.cons rfl .nil), ⟨_, ht4, rfl, _, rfl⟩⟩
      have fe : FpOk X pins (upd H s.heap.objs.size (.tup [vx, vy])) e := ⟨by rw [upd_ne (Nat.ne_of_lt el)]; exact (hf e (by simp)).1, (hf e (by simp)).2⟩
      have I2 : Inv X pins σ (upd (upd H s.heap.objs.size (.tup [vx, vy])) h'.objs.size (.tup [.int (i : Nat), .ref s.heap.objs.size])) { s with heap := h4, toks := tk + 1 } :=
        I1.turnedNew (t' := tk + 1) (ch := [e]) (fun c o hb z => k4 c o (fun y => hb (by simp [y])) z) (fun c hcm => by rw [List.mem_singleton.1 hcm]; exact fe) (Nat.le_refl _) newT
      refine ⟨.ref h'.objs.size, _, I2, rfl, ⟨h'.objs.size, s.heap.objs.size, vx, vy, rfl, I.hok.fresh (Nat.le_refl _), I.hok.fresh (by rw [hz]; exact Nat.le_succ _), by rw [hz]; exact Nat.succ_ne_self _, rfl, fun l hl => by rw [sq_inj I hl qa]; exact ex, fun l hl => by rw [sq_inj I hl qb]; exact ey⟩,
        ⟨⟨_, by rw [show ((i + 1 : Nat) : Int) = (i : Int) + 1 by omega]; exact he4⟩, ⟨y, g, k4 _ _ D.eq.symm hq', hy⟩, k4 _ _ D.eI.symm (hk _ _ S.TIz S.TITO S.TIi1 S.TIi2 hI), ?_, ga.keep fun o z => k4 _ o D.e1.symm z, gb.keep fun o z => k4 _ o D.e2.symm z⟩, fun c hcm => ?_⟩
      · obtain ⟨c, d, z⟩ := hO'
        exact ⟨c, d, k4 _ _ D.eO.symm z⟩
      · have := out c hcm
        rw [upd_ne (by rw [hz]; exact Nat.ne_of_lt (Nat.lt_succ_of_lt this)), upd_ne (Nat.ne_of_lt this)]
        exact (hf c hcm).1
  done := by
    intro X hP hw hK hc i pins s σ H E I hf st hg
    subst hP hw hK
    obtain ⟨⟨old, he⟩, ⟨x, f, hq, hx⟩, hI, hO, h1, h2⟩ := st
    obtain ⟨xs, ys, qa, qb, hi⟩ := hg
    obtain ⟨la, ra, pa⟩ := sq_of I qa
    obtain ⟨lb, rb, pb⟩ := sq_of I qb
    have na := ra.length
    have nb := rb.length
    have hd := I.ok.hd hc
    refine zs_none (A := X.A) he hq fun E' hE' => zs_end D.S (dr_of t (by simp [hd]) p1 a D.ap la.toArray) (dr_of t (by simp [hd]) p2 b D.bp lb.toArray) hq hx hI hO ⟨h1, pa⟩ ⟨h2, pb⟩ (by simp; omega) (by simp; omega) (by simp; omega) fun h' tk ex hk hx' => hE' ex _ hx' ⟨rfl, ?_⟩
    exact I.turnedL (t' := tk) (ch := [q, To, p1, p2]) (fun c o hb z => hk c o (fun y => hb (by simp [y])) (fun y => hb (by simp [y])) (fun y => hb (by simp [y])) (fun y => hb (by simp [y])) z)
      (fun c hcm => hf c (by simp only [List.mem_cons, List.not_mem_nil, or_false] at hcm ⊢; rcases hcm with rfl | rfl | rfl | rfl <;> simp))
  self := fun A i s Q E st h => let ⟨⟨_, he⟩, _⟩ := st; wpAny_pyIter_enum he h
theorem new_enumZ (z Ti To : Addr) (f0 : Value) :
    Meets (Builtin.«enumerate.__new__» ⟨[.type "enumerate", .ref z], []⟩) fun _ R s => IsZip s.heap z Ti To f0 ∧ R (.ok (.ret (.ref s.heap.objs.size))) { s with heap := s.heap.push (enO z) } :=
  .of_wp fun prog w A R s h => by
    rcases s with ⟨hp, g, d, tk, os⟩
    have hl := h.1
    have hr := h.2
    have sube := sub_enumerate
    have zip : IsZip (Shared.heap ⟨hp, g, d, tk, os⟩) z Ti To f0 := hl
    wp_walk using wpAny_loadPart' hl
    refine wpAny_stack_any fun st => wpAny_pure ?_
    split
    · rename_i c _ _ _ _ _
      cases (c == Value.type "enumerate") <;>
        (wp_walk using wpAny_loadPart' hl, wpAny_pyIter_zip zip
         exact ⟨_, rfl, hr⟩)
    · wp_walk using wpAny_loadPart' hl, wpAny_pyIter_zip zip
      exact ⟨_, rfl, hr⟩
theorem call_enumZ {prog : Program} {w : World} {A : Around} {E : Value → Shared → Prop} {s : Shared} {z Ti To : Addr} {f0 : Value} {Q : Value → Shared → Prop} (hz : IsZip s.heap z Ti To f0)
    (k : ∀ h', IsEnum h' s.heap.objs.size z 0 .none → (∀ b o, s.heap.get? b = some o → h'.get? b = some o) → Q (.ref s.heap.objs.size) { s with heap := h' }) :
    wpAny (model prog w) A (call (.type "enumerate") [.ref z]) Q E s := by
  refine callType_new F.called_enumerate (by decide) (F.typeCall_enumerate_1 _) (F.newCall_enumerate_1 _) (fun obj => F.args_object_init_2 obj _) F.entry_enumerate_new (new_enumZ z Ti To f0) ⟨hz, ?_⟩
  have e1 : IsEnum (s.heap.push (enO z)) s.heap.objs.size z 0 .none := Heap.get?_push_size s.heap (o := enO z) rfl
  exact ⟨⟨_, e1, rfl⟩, k _ e1 fun b o g => Heap.get?_push_of_some _ g⟩
def iEnz (K : PySem.W.Frag) (ta : TA) : TI := fun σ H R => ta σ H fun vs H1 => ∃ (t : Bool) (a b : Addr) (xs ys : List V), vs = [.ref a, .ref b] ∧ sqAt t K H1 a xs ∧ sqAt t K H1 b ys ∧ R (ItE K t a b) H1
theorem zip_made {prog : Program} {w : World} {A : Around} {E : Value → Shared → Prop} {s : Shared} {t : Bool} {a b : Addr} {xs ys : Array Value} {Q : Value → Shared → Prop} (ha : atIs t s.heap a xs) (hb : atIs t s.heap b ys)
    (k : ∀ h', IsZip h' (s.heap.objs.size + 4) (s.heap.objs.size + 2) (s.heap.objs.size + 3) .none → Two h' (s.heap.objs.size + 2) (.ref s.heap.objs.size) (.ref (s.heap.objs.size + 1)) → Two h' (s.heap.objs.size + 3) .none .none →
      itAt t h' s.heap.objs.size a 0 → itAt t h' (s.heap.objs.size + 1) b 0 → h'.objs.size = s.heap.objs.size + 5 → (∀ c o, s.heap.get? c = some o → h'.get? c = some o) → Q (.ref (s.heap.objs.size + 4)) { s with heap := h' }) :
    wpAny (model prog w) A (call (.type "zip") [.ref a, .ref b]) Q E s := by
  cases t
  · exact call_zip_2 ha hb fun h' h1 h2 h3 h4 h5 h6 h7 => k h' h1 h2 h3 h4 h5 h6 h7
  · exact call_zipT ha hb fun h' h1 h2 h3 h4 h5 h6 h7 => k h' h1 h2 h3 h4 h5 h6 h7
theorem pi_enz {X : Cx} {e e2 : Expr} {ta : TA} {p p2 pos pos' tpos : Pos} {elts : List Expr} {kk : Nat} (hg : Gl X "enumerate") (hm : X.mg "enumerate" = none) (hg2 : Gl X "zip") (hm2 : X.mg "zip" = none) (ha : PA X [e, e2] ta)
    (hs : starEach [e, e2] X.env = (false, eval e X.env) :: starEach [e2] X.env) (hpl : (backTo pos' (starEach [e2] X.env)).any (·.1) = false) :
    PI X (.Tuple elts kk tpos) (.Call (.Name "enumerate" p) [.Call (.Name "zip" p2) [e, e2] [] pos'] [] pos) (iEnz X.K ta) := by
  refine ⟨fun pins s σ H R I h => ?_⟩
  have na : starEach [.Call (.Name "zip" p2) [e, e2] [] pos'] X.env = (false, eval (.Call (.Name "zip" p2) [e, e2] [] pos') X.env) :: starEach [] X.env := rfl
  have made : wpAny (model X.prog X.w) X.A (eval (.Call (.Name "zip" p2) [e, e2] [] pos') X.env) (fun v s' => ∃ (t : Bool) (a b N : Addr) (H' : Hp), v = .ref (N + 4) ∧ Inv X pins σ H' s' ∧ a < N ∧ b < N ∧ N + 5 = s'.heap.objs.size ∧
      IsZip s'.heap (N + 4) (N + 2) (N + 3) .none ∧ Two s'.heap (N + 2) (.ref N) (.ref (N + 1)) ∧ Two s'.heap (N + 3) .none .none ∧ itAt t s'.heap N a 0 ∧ itAt t s'.heap (N + 1) b 0 ∧ (∀ c, N ≤ c → FpOk X pins H' c) ∧ R (ItE X.K t a b) H') X.xe s := by
    refine Call_ (ld_blt I hg2 hm2 PyProof.Rows.boot_zip (PyProof.Rows.callWith_type1 (thn (ha.run pos' pins s σ H _ I h) fun us s1 ⟨vs, H1, I1, r1, q1⟩ => ?_) hs hpl))
    obtain ⟨t, a, b, xs, ys, rfl, qa, qb, q⟩ := q1
    rcases r1 with _ | ⟨r, _ | ⟨r', _ | _⟩⟩
    cases r
    cases r'
    obtain ⟨la, ra, pa⟩ := sq_of I1 qa
    obtain ⟨lb, rb, pb⟩ := sq_of I1 qb
    have lt : ∀ {c : Addr} {its : Array Value}, atIs t s1.heap c its → c < s1.heap.objs.size := fun {c its} h => by
      cases t
      · obtain ⟨o, z, _⟩ := (show s1.heap.IsList c its from h); exact Heap.lt_size z
      · obtain ⟨o, z, _⟩ := (show s1.heap.IsTuple c its from h); exact Heap.lt_size z
    refine zip_made pa pb fun h' h1 h2 h3 h4 h5 h6 h7 => ⟨t, a, b, s1.heap.objs.size, H1, rfl, I1.kept (t' := s1.toks) h7, lt pa, lt pb, h6.symm, h1, h2, h3, h4, h5, fun c hc => ?_, q⟩
    obtain ⟨f1, f2, f3, f4, f5, f6⟩ := I1.fpOk hc (I1.hok.fresh hc)
    exact ⟨f1, f2, f3, f4, f5, f6⟩
  refine Call_ (ld_blt I hg hm boot_enumerate (PyProof.Rows.callWith_type1 (args_cons (thn made fun v s1 hv => args_nil ?_) na) na))
  obtain ⟨t, a, b, N, H', rfl, I1, hla, hlb, hz, h1, h2, h3, h4, h5, hf, q⟩ := hv
  refine call_enumZ h1 fun h' he kp => wpAny_pyIter_enum he ?_
  have nn : ∀ i j : Nat, i ≠ j → N + i ≠ N + j := fun i j h z => h (Nat.add_left_cancel z)
  have n0 : ∀ i : Nat, i ≠ 0 → N + i ≠ N := fun i h z => h (Nat.add_left_cancel (n := N) (show N + i = N + 0 from z))
  have ge : ∀ i : Nat, i < 5 → s1.heap.objs.size ≠ N + i := fun i h z => by rw [← hz] at z; exact absurd (Nat.add_left_cancel z) (Nat.ne_of_gt h)
  have g0 : s1.heap.objs.size ≠ N := ge 0 (by decide)
  have S : ZipSep2 (N + 4) (N + 2) (N + 3) N (N + 1) [N, a] [N + 1, b] := zip_sep2 (fp1 := [a]) (fp2 := [b]) (fun c hc => by rw [List.mem_singleton.1 hc]; exact hla) (fun c hc => by rw [List.mem_singleton.1 hc]; exact hlb)
  have D : Apart6 s1.heap.objs.size (N + 4) (N + 2) (N + 3) N (N + 1) a b := ⟨S, ge 4 (by decide), ge 2 (by decide), ge 3 (by decide), g0, ge 1 (by decide), Nat.ne_of_lt hla, Nat.ne_of_lt (Nat.lt_succ_of_lt hlb)⟩
  refine ⟨s1.heap.objs.size, [s1.heap.objs.size, N + 4, N + 2, N + 3, N, N + 1], _, _, H', rfl, I1.kept (t' := s1.toks) kp, turn_enz D, ⟨⟨.none, he⟩, ⟨.none, false, kp _ _ h1, .inl rfl⟩, kp _ _ h2, ⟨_, _, kp _ _ h3⟩, h4.keep fun o z => kp _ o z, h5.keep fun o z => kp _ o z⟩, fun c hc => hf c ?_, q⟩
  simp only [List.mem_cons, List.not_mem_nil, or_false] at hc
  rcases hc with rfl | rfl | rfl | rfl | rfl | rfl
  · rw [← hz]; exact Nat.le_add_right _ _
  all_goals first | exact Nat.le_refl _ | exact Nat.le_add_right _ _
end VI

set_option maxRecDepth 100000
set_option maxHeartbeats 1000000
/-! VI5: an expression of the text does what its twin in our language does. -/
namespace VI
open PySem PySem.Spec PyProof.Rows L2

/-! ### weaker readings -/
section
variable {X : Cx}
theorem _root_.L2.PE.w {e : Expr} {t t' : TE} (h : PE X e t) (f : ∀ σ H Q, t' σ H Q → t σ H Q) : PE X e t' := ⟨fun pins s σ H Q I q => h.run pins s σ H Q I (f _ _ _ q)⟩
theorem _root_.L2.PT.w {e : Expr} {t t' : TT} (h : PT X e t) (f : ∀ σ H Q, t' σ H Q → t σ H Q) : PT X e t' := ⟨fun pins s σ H Q I q => h.run pins s σ H Q I (f _ _ _ q)⟩
theorem _root_.L2.PW.w {e : Expr} {t t' : TT} (h : PW X e t) (f : ∀ σ H Q, t' σ H Q → t σ H Q) : PW X e t' := ⟨fun wh pins s σ H Q I q => h.run wh pins s σ H Q I (f _ _ _ q)⟩
theorem _root_.L2.PA.w {e : List Expr} {t t' : TA} (h : PA X e t) (f : ∀ σ H Q, t' σ H Q → t σ H Q) : PA X e t' := ⟨fun pos pins s σ H Q I q => h.run pos pins s σ H Q I (f _ _ _ q)⟩
theorem _root_.L2.PO.w {e : Option Expr} {t t' : TO} (h : PO X e t) (f : ∀ σ H Q, t' σ H Q → t σ H Q) : PO X e t' := ⟨fun pins s σ H Q I q => h.run pins s σ H Q I (f _ _ _ q)⟩
end

/-! ### the text against its twin -/
def odd : Expr → Bool
  | .Starred .. => true
  | .Slice .. => true
  | .Set .. => true
  | .NamedExpr .. => true
  | _ => false
def isIf : Expr → Bool
  | .IfExp .. => true
  | _ => false
/-- the tests that are a value's truth and no more -/
def plT : Expr → Bool
  | .UnaryOp .Not _ _ => false
  | .BoolOp .. => false
  | .IfExp .. => false
  | .Compare .. => false
  | _ => true
def isLc : Expr → Bool
  | .ListComp .. => true
  | .SetComp .. => true
  | .DictComp .. => true
  | _ => false
/-- a call without arguments: super() is one -/
def isC0 : Expr → Bool
  | .Call (.Name _ _) [] [] _ => true
  | _ => false
def visB (sc : Scope) (x : Str) : Bool := match sc.names.lookup x with
  | some .local => true
  | some .cell => true
  | some .free => true
  | _ => false
def glB (sc : Scope) (x : Str) : Bool := (match sc.names.lookup x with
  | some .globalImplicit => true
  | _ => false) && !(x == ("__debug__" : Str))
def locB (sc : Scope) (B : Str → Bool) (x : Str) : Bool := match sc.names.lookup x with
  | some .local => true
  | some .cell => B x
  | _ => false
def mthN : Mth → String
  | .append => "append"
  | .pop0 => "pop"
  | .pop => "pop"
  | .index => "index"
  | .count => "count"
  | .get => "get"
  | .popD => "pop"
  | .join => "join"
  | .split => "split"
  | .index2 => "index"
def mthOk : Mth → Bool
  | .append => true
  | .pop0 => true
  | .pop => true
  | .index => true
  | .index2 => true
  | .count => true
  | _ => false

mutual
def ceT (N : List Str) (sc : Scope) (B : Str → Bool) : Tg → Expr → Bool
  | .n i, e => match e with
    | .Name x _ => decide (N[i]? = some x) && locB sc B x
    | _ => false
  | .tup t, e => match e with
    | .Tuple es _ _ => ceTs N sc B t es
    | _ => false
  | _, _ => false
def ceTs (N : List Str) (sc : Scope) (B : Str → Bool) : Tg → List Expr → Bool
  | .nil, es => match es with
    | [] => true
    | _ => false
  | .cons t r, es => match es with
    | e :: es => ceT N sc B t e && ceTs N sc B r es
    | [] => false
  | _, _ => false
end
def cstB : Const → AV → Bool
  | .int i, .int j => i == j
  | .bool b, .bl c => b == c
  | .none, .non => true
  | .str x, .str y => x == y
  | _, _ => false
mutual
def ce (N : List Str) : E → Scope → Expr → Bool
  | .v i, sc, e => match e with
    | .Name x _ => decide (N[i]? = some x) && visB sc x && !(x == ("__debug__" : Str)) && !(x == ("__classdict__" : Str))
    | _ => false
  | .c a, _, e => match e with
    | .Constant k _ _ => cstB k a
    | _ => false
  | .g y _, sc, e => match e with
    | .Name x _ => decide (x = y) && glB sc x
    | _ => false
  | .bt n, sc, e => match e with
    | .Name x _ => decide (x = Str.ofString n) && glB sc x && tyB n
    | _ => false
  | .bin _ o a b, sc, e => match e with
    | .BinOp x op y _ => decide (op = opB o) && bOk o && ce N a sc x && ce N b sc y
    | _ => false
  | .neg a, sc, e => match e with
    | .UnaryOp .USub x _ => ce N a sc x
    | _ => false
  | .not a, sc, e => match e with
    | .UnaryOp .Not x _ => ce N a sc x && !isIf x
    | _ => false
  | .cmp o a b, sc, e => match e with
    | .Compare x [op] [y] _ => decide (op = opC o) && ce N a sc x && ce N b sc y && !odd y
    | _ => false
  | .cmx F a b, sc, e => match e with
    | .Compare x [op] [y] _ => decide (op = opC F.o) && ce N a sc x && ce N b sc y && !odd y
    | _ => false
  | .chain o p a b c, sc, e => match e with
    | .Compare x [op, op'] [y, z] _ => decide (op = opC o) && decide (op' = opC p) && ce N a sc x && ce N b sc y && ce N c sc z && !odd z
    | _ => false
  | .and a b, sc, e => match e with
    | .BoolOp .And (x :: y :: r) p => ce N a sc x && !isIf x && (match r with
      | [] => ce N b sc y && !isIf y
      | _ :: _ => ce N b sc (.BoolOp .And (y :: r) p))
    | _ => false
  | .or a b, sc, e => match e with
    | .BoolOp .Or (x :: y :: r) p => ce N a sc x && !isIf x && (match r with
      | [] => ce N b sc y && !isIf y
      | _ :: _ => ce N b sc (.BoolOp .Or (y :: r) p))
    | _ => false
  | .ite c a b, sc, e => match e with
    | .IfExp t x y _ => ce N c sc t && !isIf t && ce N a sc x && ce N b sc y
    | _ => false
  | .tup l, sc, e => match e with
    | .Tuple es _ _ => ceL N l sc es
    | _ => false
  | .lst _ l, sc, e => match e with
    | .List es _ => ceL N l sc es
    | _ => false
  | .ix a i, sc, e => match e with
    | .Subscript x y _ => ce N a sc x && ce N i sc y && !odd y
    | _ => false
  | .sl _ a lo hi, sc, e => match e with
    | .Subscript x (.Slice l h none _) _ => ce N a sc x && (match l with
        | none => lo.isNop
        | some l => !lo.isNop && ce N lo sc l) && (match h with
        | none => hi.isNop
        | some h => !hi.isNop && ce N hi sc h)
    | _ => false
  | .rev _ a, sc, e => match e with
    | .Subscript x (.Slice none none (some (.UnaryOp .USub (.Constant (.int 1) _ _) _)) _) _ => ce N a sc x
    | _ => false
  | .call f _ l, sc, e => match e with
    | .Call (.Name x _) es [] _ => decide (x = f) && glB sc x && ceL N l sc es
    | _ => false
  | .prim _ p l, sc, e => match e with
    | .Call (.Name x _) (e1 :: es) [] _ => decide (x = Str.ofString (primN p)) && primOk p && glB sc x && ceL N l sc (e1 :: es)
    | _ => false
  | .met _ p r l, sc, e => match e with
    | .Call (.Attribute o nm ap) es [] cp => decide (nm = Str.ofString (mthN p)) && mthOk p && ce N r sc o && !isC0 o && (ap.endLine == cp.line) && decide (es.length < 20) && ceL N l sc es
    | _ => false
  | .comp _ own t it e1 cd, sc, e => match e with
    | .ListComp elt [⟨tg, iter, ifs, ay⟩] scope _ => decide (ay = 0) && blkC N sc scope (own.map fun i => (N.getD i ⟨#[]⟩, i)) && ceI N it sc tg iter && !odd iter && (t.slots.all fun i => own.contains i) && ceT N (relS scope sc) (fun x => scope.names.lookup x == some .cell) t tg &&
        ce N e1 (relS scope sc) elt && (match ifs with
          | [] => cd.isNop
          | [c] => !cd.isNop && ce N cd (relS scope sc) c && !isIf c
          | _ => false)
    | _ => false
  | .ext F l, sc, e => (plT e && !isLc e) && (match F.mat sc e with
    | some es => ceL N l sc es
    | none => false)
  | .sset _ a, sc, e => match e with
    | .Call (.Name l _) [.Call (.Name r _) [x] [] _] [] _ => decide (l = Str.ofString "sorted") && decide (r = Str.ofString "set") && glB sc l && glB sc r && ce N a sc x && !odd x
    | _ => false
  | .lrg2 _ a b, sc, e => match e with
    | .Call (.Name l _) [.Call (.Name r _) [x, y] [] _] [] _ => decide (l = Str.ofString "list") && decide (r = Str.ofString "range") && glB sc l && glB sc r && ce N a sc x && !odd x && ce N b sc y && !odd y
    | _ => false
  | .lrg3 _ a b c, sc, e => match e with
    | .Call (.Name l _) [.Call (.Name r _) [x, y, z] [] _] [] _ => decide (l = Str.ofString "list") && decide (r = Str.ofString "range") && glB sc l && glB sc r && ce N a sc x && !odd x && ce N b sc y && !odd y && ce N c sc z && !odd z
    | _ => false
  | .lrg _ a, sc, e => match e with
    | .Call (.Name l _) [.Call (.Name r _) [x] [] _] [] _ => decide (l = Str.ofString "list") && decide (r = Str.ofString "range") && glB sc l && glB sc r && ce N a sc x && !odd x
    | _ => false
  | _, _, _ => false
def ceL (N : List Str) : E → Scope → List Expr → Bool
  | .nil, _, es => match es with
    | [] => true
    | _ => false
  | .cons a r, sc, es => match es with
    | e :: es => ce N a sc e && !odd e && ceL N r sc es
    | [] => false
  | _, _, _ => false
/-- what is walked: the target, the thing -/
def ceI (N : List Str) : E → Scope → Expr → Expr → Bool
  | .itv a, sc, _, e => ce N a sc e
  | .iext F l, sc, tg, e => match F.mat sc tg e with
    | some es => ceL N l sc es
    | none => false
  | .it1 a, sc, _, e => match e with
    | .Call (.Name r _) [x] [] _ => decide (r = Str.ofString "range") && glB sc r && ce N a sc x && !odd x
    | _ => false
  | .it2 a b, sc, _, e => match e with
    | .Call (.Name r _) [x, y] [] _ => decide (r = Str.ofString "range") && glB sc r && ce N a sc x && !odd x && ce N b sc y && !odd y
    | _ => false
  | .it3 a b c, sc, _, e => match e with
    | .Call (.Name r _) [x, y, z] [] _ => decide (r = Str.ofString "range") && glB sc r && ce N a sc x && !odd x && ce N b sc y && !odd y && ce N c sc z && !odd z
    | _ => false
  | .ien a, sc, tg, e => match tg with
    | .Tuple _ _ _ => match e with
      | .Call (.Name r _) [x] [] _ => decide (r = Str.ofString "enumerate") && glB sc r && ce N a sc x && !odd x
      | _ => false
    | _ => false
  | .izp a b, sc, tg, e => match tg with
    | .Tuple _ _ _ => match e with
      | .Call (.Name r _) [x, y] [] _ => decide (r = Str.ofString "zip") && glB sc r && ce N a sc x && !odd x && ce N b sc y && !odd y
      | _ => false
    | _ => false
  | _, _, _, _ => false
end
/-- which forms are right -/
structure FO where
  e : Form → Prop
  i : FormI → Prop
  s : FormS → Prop
  t : FormT → Prop
  c : FormC → Prop
def Lk (K : PySem.W.Frag) (mg : Str → Option Value) (F : Str → Fn → Prop) (G : FO) : E → Prop
  | .ext f l => G.e f ∧ Lk K mg F G l
  | .iext f l => G.i f ∧ Lk K mg F G l
  | .cons a r => Lk K mg F G a ∧ Lk K mg F G r
  | .g x a => ∃ u v, mg x = some u ∧ RelV v u ∧ ∀ W, RV K W a v
  | .bt n => mg (Str.ofString n) = none
  | .bin _ _ a b => Lk K mg F G a ∧ Lk K mg F G b
  | .neg a => Lk K mg F G a
  | .not a => Lk K mg F G a
  | .cmp _ a b => Lk K mg F G a ∧ Lk K mg F G b
  | .cmx f a b => G.c f ∧ Lk K mg F G a ∧ Lk K mg F G b
  | .chain _ _ a b c => Lk K mg F G a ∧ Lk K mg F G b ∧ Lk K mg F G c
  | .and a b => Lk K mg F G a ∧ Lk K mg F G b
  | .or a b => Lk K mg F G a ∧ Lk K mg F G b
  | .ite a b c => Lk K mg F G a ∧ Lk K mg F G b ∧ Lk K mg F G c
  | .tup a => Lk K mg F G a
  | .lst _ a => Lk K mg F G a
  | .ix a b => Lk K mg F G a ∧ Lk K mg F G b
  | .sl _ a b c => Lk K mg F G a ∧ Lk K mg F G b ∧ Lk K mg F G c
  | .rev _ a => Lk K mg F G a
  | .call x d l => F x d ∧ Lk K mg F G l
  | .prim _ p l => mg (Str.ofString (primN p)) = none ∧ Lk K mg F G l
  | .met _ _ r l => Lk K mg F G r ∧ Lk K mg F G l
  | .comp _ _ _ it e cd => Lk K mg F G it ∧ Lk K mg F G e ∧ Lk K mg F G cd
  | .sset _ a => mg (Str.ofString "sorted") = none ∧ mg (Str.ofString "set") = none ∧ Lk K mg F G a
  | .lrg2 _ a b => mg (Str.ofString "list") = none ∧ mg (Str.ofString "range") = none ∧ Lk K mg F G a ∧ Lk K mg F G b
  | .lrg3 _ a b c => mg (Str.ofString "list") = none ∧ mg (Str.ofString "range") = none ∧ Lk K mg F G a ∧ Lk K mg F G b ∧ Lk K mg F G c
  | .lrg _ a => mg (Str.ofString "list") = none ∧ mg (Str.ofString "range") = none ∧ Lk K mg F G a
  | .itv a => Lk K mg F G a
  | .it1 a => mg (Str.ofString "range") = none ∧ Lk K mg F G a
  | .it2 a b => mg (Str.ofString "range") = none ∧ Lk K mg F G a ∧ Lk K mg F G b
  | .it3 a b c => mg (Str.ofString "range") = none ∧ Lk K mg F G a ∧ Lk K mg F G b ∧ Lk K mg F G c
  | .ien a => mg (Str.ofString "enumerate") = none ∧ Lk K mg F G a
  | .izp a b => mg (Str.ofString "zip") = none ∧ Lk K mg F G a ∧ Lk K mg F G b
  | .ienz a b => mg (Str.ofString "enumerate") = none ∧ mg (Str.ofString "zip") = none ∧ Lk K mg F G a ∧ Lk K mg F G b
  | _ => True

/-- a def's promise: it does what d does -/
def spOf (K : PySem.W.Frag) (d : Fn) : Sp := fun vs H Q _ => ∃ W S as, W.H = H ∧ Rep K W S ∧ RVs K W as vs ∧ PostO K W (d as S) Q
/-- the def that stands at a name keeps it -/
def Fx (P : Program) (w : World) (K : PySem.W.Frag) (mg : Str → Option Value) (base : Heap) (k : Nat) (x : Str) (d : Fn) : Prop :=
  ∃ f fd ps, mg x = some (.ref f) ∧ PySem.W.keepIn K (.ref f) = true ∧ Binds K fd ps [] ∧ (∀ as S r S', d as S = .ok r S' → as.length = ps.length) ∧ FnOk P w K mg base CX0 k f fd ps (spOf K d)
/-- where one stands -/
structure GE (P : Program) (w : World) (K : PySem.W.Frag) (mg : Str → Option Value) (base : Heap) (k : Nat) (N : List Str) (X : Cx) (sc : Scope) : Prop where
  hP : X.prog = P
  hw : X.w = w
  hK : X.K = K
  hmg : X.mg = mg
  hbase : X.base = base
  hN : X.N = N
  nd : N.Nodup
  calm : X.calm = true
  room : Room k X.A
  scope : X.env.scope = sc
/-- at a def's body: nothing is let out, every cell is its own -/
structure GS (P : Program) (w : World) (K : PySem.W.Frag) (mg : Str → Option Value) (base : Heap) (k : Nat) (N : List Str) (Wx : WX) (X : Cx) (sc : Scope) : Prop extends GE P w K mg base k N X sc where
  fn : X.fn = fun _ => true
  po : PassesOwn (model X.prog X.w) X.A X.env X.xe
  tk : L2N.Takes X Wx
  hs : X.stack = X.env :: X.outer
  hf : X.env.frame = some X.env.locals
/-- expressions, one by one -/
inductive PEs (X : Cx) : List Expr → List Dn → Prop
  | nil : PEs X [] []
  | cons {e : Expr} {es : List Expr} {m : Dn} {ms : List Dn} : PE X e (T X.K m) → odd e = false → PEs X es ms → PEs X (e :: es) (m :: ms)
/-- a form of an expression does what it says -/
def FormOk (P : Program) (w : World) (K : PySem.W.Frag) (mg : Str → Option Value) (base : Heap) (k : Nat) (F : Form) : Prop :=
  ∀ N X sc e es ms, GE P w K mg base k N X sc → F.mat sc e = some es → PEs X es ms → PE X e (T K (F.sem ms))
def FormSOk (P : Program) (w : World) (K : PySem.W.Frag) (mg : Str → Option Value) (base : Heap) (k : Nat) (F : FormS) : Prop :=
  ∀ N X sc Wx s es ms, GS P w K mg base k N Wx X sc → F.mat N sc s = some es → PEs X es ms → PS X s (TSt K Wx (F.sem ms))
def FormCOk (P : Program) (w : World) (K : PySem.W.Frag) (mg : Str → Option Value) (base : Heap) (k : Nat) (F : FormC) : Prop :=
  (∀ N X sc, GE P w K mg base k N X sc → OpR X (compareOp (opC F.o)) (R2D K F.sem)) ∧ ∀ x y S r S', F.sem x y S = .ok r S' → ∃ b, r = .bl b
def FormTOk (P : Program) (w : World) (K : PySem.W.Frag) (mg : Str → Option Value) (base : Heap) (k : Nat) (F : FormT) : Prop :=
  ∀ N X sc Wx s ss mb, GS P w K mg base k N Wx X sc → F.mat N sc s = some ss → (∀ X' Wx', GS P w K mg base k N Wx' X' sc → PSs X' ss (TSt K Wx' mb)) → PS X s (TSt K Wx (F.sem mb))
section
variable {P : Program} {w : World} {K : PySem.W.Frag} {mg : Str → Option Value} {base : Heap} {k : Nat} {N : List Str} {X : Cx} {sc : Scope}
theorem GE.hu (g : GE P w K mg base k N X sc) : X.A.units + 64 < cLine := g.room.units
theorem GE.hu80 (g : GE P w K mg base k N X sc) : X.A.units + 80 < cLine := by have := g.room.un; omega
theorem GE.blk (g : GE P w K mg base k N X sc) (s : Shared) (H : Hp) (scope : Scope) (C : Addr) (cl : List (Str × Addr)) (fp : List Addr) :
    GE P w K mg base k N (X.blk s H scope (compEnvC scope cl C X.env) fp) (relS scope sc) :=
  ⟨g.hP, g.hw, g.hK, g.hmg, g.hbase, g.hN, g.nd, g.calm, g.room, by rw [← g.scope]; rfl⟩
theorem GE.gl (g : GE P w K mg base k N X sc) {x : Str} (h : glB sc x = true) : Gl X x ∧ (x == ("__debug__" : Str)) = false := by
  unfold glB at h
  rw [Bool.and_eq_true] at h
  refine ⟨?_, by simpa using h.2⟩
  have h1 := h.1
  split at h1
  · rename_i e
    show X.env.scope.names.lookup x = _
    rw [g.scope]; exact e
  · cases h1
theorem GE.vis (g : GE P w K mg base k N X sc) {x : Str} (h : visB sc x = true) : Vis X.env.scope x := by
  rw [g.scope]
  unfold visB at h
  split at h
  · exact .inl (by assumption)
  · exact .inr (.inl (by assumption))
  · exact .inr (.inr (by assumption))
  · cases h
theorem GE.loc (g : GE P w K mg base k N X sc) {B : Str → Bool} {x : Str} (h : locB sc B x = true) : Loc X.env.scope x ∧ (B x = true ∨ X.env.scope.names.lookup x = some .local) := by
  rw [g.scope]
  unfold locB at h
  split at h
  · exact ⟨.inl (by assumption), .inr (by assumption)⟩
  · exact ⟨.inr (by assumption), .inl h⟩
  · cases h
end
theorem odd_ix {e : Expr} (h : odd e = false) : PlainIx e := by
  intro o i
  cases e <;> first | rfl | cases h
theorem odd_star {e : Expr} {es : List Expr} {env : Env} (h : odd e = false) : starEach (e :: es) env = (false, eval e env) :: starEach es env := by
  cases e <;> first | rfl | cases h
theorem odd_fold {e : Expr} {env : Env} (h : odd e = false) : ∀ x, foldedSetIterable e env x = pure x := by
  intro x
  cases e <;> first | rfl | cases h
theorem odd_marks {e : Expr} (h : odd e = false) (op : CmpOp) : behindInMarks op e = false := by
  cases e <;> first | rfl | cases h
theorem star_plain {N : List Str} {sc : Scope} {env : Env} : ∀ {l : E} {es : List Expr}, ceL N l sc es = true → (starEach es env).any (·.1) = false
  | .nil, [], _ => rfl
  | .cons a r, e :: es, h => by
    simp only [ceL, Bool.and_eq_true, Bool.not_eq_true'] at h
    rw [odd_star h.1.2]
    show (false || (starEach es env).any (·.1)) = false
    rw [star_plain (l := r) h.2]; rfl
  | .nil, _ :: _, h => by simp [ceL] at h
  | .cons _ _, [], h => by simp [ceL] at h
theorem boot_prim (p : Prim) : bootBuiltins (Str.ofString (primN p)) = some (primV p) := by cases p <;> decide +kernel
theorem primN_ne (p : Prim) : Str.ofString (primN p) ≠ ("__name__" : Str) := by cases p <;> decide +kernel
theorem boot_ty {n : String} (h : tyB n = true) : bootBuiltins (Str.ofString n) = some (.type n) ∧ Str.ofString n ≠ ("__name__" : Str) := by
  have hn : n = "int" ∨ n = "bool" ∨ n = "str" ∨ n = "tuple" ∨ n = "list" := by simpa [tyB, or_assoc] using h
  rcases hn with rfl | rfl | rfl | rfl | rfl <;> exact ⟨by decide +kernel, by decide +kernel⟩
end VI

set_option maxRecDepth 100000
set_option maxHeartbeats 1000000
/-! VI6: .. by the form of an expression. -/
namespace VI
open PySem PySem.Spec PyProof.Rows L2

section
variable {K : PySem.W.Frag} {W : Wd} {σ : L2.St} {H : Hp} {Q : VK} {ma mb mc : Ev → Store → Out AV}
theorem T_op2 {f : AV → AV → Store → Out AV} (h : T K (fun ρ S => (ma ρ S).bd fun x S1 => (mb ρ S1).bd fun y S2 => f x y S2) σ H Q) : tOp (R2D K f) (T K ma) (T K mb) σ H Q := by
  obtain ⟨W, ρ, S, s, P⟩ := h
  exact T.bd s P fun a S1 W1 x L1 s1 ra P1 => T.bd s1 P1 fun b S2 W2 y L2 s2 rb P2 => ⟨W2, S2, a, b, rfl, s2.rep, ra.mono L2, rb, P2⟩
theorem tru_of {W : Wd} {S : Store} {a : AV} {x : V} {b : Bool} (R : Rep K W S) (ra : RV K W a x) (e : truth S a = some b) : TruV K x W.H b := by
  cases a with
  | non => cases ra; exact (Option.some.inj e).symm
  | bl c => cases ra; exact (Option.some.inj e).symm
  | int i =>
    cases ra
    show b = (i != 0)
    rw [← Option.some.inj e]
    by_cases h : i = 0 <;> simp [h]
  | str z =>
    cases ra
    simp only [truth] at e
    split at e
    · rename_i hz
      refine ⟨hz, ?_⟩
      rw [← Option.some.inj e]
      by_cases h : z.length = 0 <;> simp [h]
    · cases e
  | tup l =>
    obtain ⟨p, xs, rfl, h, r⟩ := ra.itT
    have := Option.some.inj e
    subst this
    refine .inr (.inl ⟨xs, h, ?_⟩)
    cases r <;> rfl
  | lst l =>
    obtain ⟨p, xs, rfl, h, r⟩ := lst_it R ra rfl
    have := Option.some.inj e
    subst this
    refine .inl ⟨xs, SqL.of h, ?_⟩
    cases r <;> rfl
  | scr l =>
    obtain ⟨p, rfl, h⟩ := scr_it ra
    have := Option.some.inj e
    subst this
    refine .inl ⟨_, h, ?_⟩
    cases l <;> rfl
  | loc i =>
    simp only [truth] at e
    cases e1 : S[i]? with
    | none => simp [e1] at e
    | some o =>
      cases o with
      | lst l =>
        simp only [e1] at e
        have := Option.some.inj e
        subst this
        obtain ⟨p, xs, rfl, h, r⟩ := lst_it R ra (l := l) (by simp [lstOf, e1])
        refine .inl ⟨xs, SqL.of h, ?_⟩
        cases r <;> rfl
      | dct lk l =>
        cases lk with
        | true => simp [e1] at e
        | false =>
          simp only [e1] at e
          have := Option.some.inj e
          subst this
          obtain ⟨xs, h, r⟩ := R.obj i _ e1
          cases ra
          refine .inr (.inr ⟨xs, h, ?_⟩)
          have hl := r.len
          cases l <;> cases xs <;> first | rfl | (simp at hl; done)
      | _ => simp [e1] at e
  | _ => cases e
theorem Post.w {r : AV} {S' : Store} {Q Q' : VK} (h : Post K W r S' Q) (f : ∀ x H, Q x H → Q' x H) : Post K W r S' Q' := fun W' x L R rv => f _ _ (h W' x L R rv)
/-- a value's truth, then what hangs on it -/
theorem T_tru {Q' : VK} {f : AV → Bool → Store → Out AV} (h : T K (fun ρ S => (ma ρ S).bd fun x S1 => match truth S1 x with
    | some b => f x b S1
    | none => .no) σ H Q) (k : ∀ W ρ S a x b, Stt K W ρ S σ W.H → RV K W a x → TruV K x W.H b → PostO K W (f a b S) Q → Q' x W.H) : T K ma σ H Q' := by
  obtain ⟨W, ρ, S, s, P⟩ := h
  refine T.bd s P fun a S1 W1 x L1 s1 ra P1 => ?_
  cases e : truth S1 a with
  | none => simp only [e] at P1; exact P1.no.elim
  | some b =>
    simp only [e] at P1
    exact k W1 ρ S1 a x b s1 ra (tru_of s1.rep ra e) P1
end

section
variable {X : Cx} {a b c : Expr} {pos : Pos} {ma mb mc : Ev → Store → Out AV}
theorem pe_binV {m : Bool} {o : BOp} (ho : bOk o = true) (ha : PE X a (T X.K ma)) (hb : PE X b (T X.K mb)) : PE X (.BinOp a (opB o) b pos) (T X.K fun ρ S => (ma ρ S).bd fun x S1 => (mb ρ S1).bd fun y S2 => binD m o x y S2) :=
  (pe_op (op_binV o ho) ha hb).w fun _ _ _ h => T_op2 h
theorem pe_negV (ha : PE X a (T X.K ma)) : PE X (.UnaryOp .USub a pos) (T X.K fun ρ S => (ma ρ S).bd fun x S1 => match x with
    | .int i => .ok (.int (-i)) S1
    | _ => .no) := by
  refine (pe_un un_neg ha).w fun σ H Q h => ?_
  obtain ⟨W, ρ, S, s, P⟩ := h
  refine T.bd s P fun x S1 W1 v L1 s1 ra P1 => ?_
  cases x with
  | int i => cases ra; exact ⟨i, rfl, P1.val s1.rep (.int _)⟩
  | _ => exact P1.no.elim
theorem pe_notV (ha : PE X a (T X.K ma)) : PE X (.UnaryOp .Not a pos) (T X.K fun ρ S => (ma ρ S).bd fun x S1 => outB ((truth S1 x).map (!·)) S1) := by
  refine (pe_notT ha).w fun σ H Q h => ?_
  obtain ⟨W, ρ, S, s, P⟩ := h
  refine T.bd s P fun x S1 W1 v L1 s1 ra P1 => ?_
  cases e : truth S1 x with
  | none => rw [e] at P1; exact P1.no.elim
  | some k => rw [e] at P1; exact ⟨k, tru_of s1.rep ra e, P1.val s1.rep (.bl _)⟩
theorem pe_cmpV (hu : X.A.units + 64 < cLine) {o : COp} (ha : PE X a (T X.K ma)) (hb : PE X b (T X.K mb)) (hm : behindInMarks (opC o) b = false) :
    PE X (.Compare a [opC o] [b] pos) (T X.K fun ρ S => (ma ρ S).bd fun x S1 => (mb ρ S1).bd fun y S2 => outB (cmpD o x y S2) S2) :=
  (pe_cmpR (op_cmpV hu o) ha hb hm).w fun _ _ _ h => T_op2 h
theorem pe_ixV (hu : X.A.units + 1 < cLine) (ha : PE X a (T X.K ma)) (hb : PE X b (T X.K mb)) (hs : PlainIx b) : PE X (.Subscript a b pos) (T X.K fun ρ S => (ma ρ S).bd fun x S1 => (mb ρ S1).bd fun y S2 => ixD x y S2) :=
  (pe_ix (op_ixV hu) ha hb hs).w fun _ _ _ h => T_op2 h
theorem PostB.of {K : PySem.W.Frag} {W : Wd} {b : Bool} {S : Store} {Q : Bool → Hp → Prop} (h : PostB K W (.ok (.bl b) S) Q) (R : Rep K W S) : Q b W.H := by
  obtain ⟨b', S', e, k⟩ := h
  cases e
  exact k W (Le.refl W) R
theorem PostB.no {K : PySem.W.Frag} {W : Wd} {Q : Bool → Hp → Prop} (h : PostB K W .no Q) : False := by
  obtain ⟨b', S', e, k⟩ := h
  cases e
/-- a test as a value's truth -/
theorem TB_tru {K : PySem.W.Frag} {σ : L2.St} {H : Hp} {Q : Bool → Hp → Prop} {m : Ev → Store → Out AV} (h : TB K (fun ρ S => truD (m ρ S)) σ H Q) : T K m σ H fun x H' => ∃ k, TruV K x H' k ∧ Q k H' := by
  obtain ⟨W, ρ, S, s, b, S', e, P⟩ := h
  obtain ⟨a, S1, e1, e2⟩ := Out.bd_eq e
  cases e3 : truth S1 a with
  | none => rw [e3] at e2; cases e2
  | some c =>
    rw [e3] at e2
    cases e2
    exact ⟨W, ρ, S, s, a, _, e1, fun W1 x L1 R1 ra => ⟨b, tru_of R1 ra e3, P W1 L1 R1⟩⟩
/-- .. of what is True or False anyhow -/
theorem TB_bool {K : PySem.W.Frag} {σ : L2.St} {H : Hp} {Q : Bool → Hp → Prop} {m : Ev → Store → Out AV} (hb : ∀ ρ S a S', m ρ S = .ok a S' → ∃ b, a = .bl b) (h : TB K (fun ρ S => truD (m ρ S)) σ H Q) : T K m σ H fun x H' => ∃ k, x = .bl k ∧ Q k H' := by
  obtain ⟨W, ρ, S, s, b, S', e, P⟩ := h
  obtain ⟨a, S1, e1, e2⟩ := Out.bd_eq e
  obtain ⟨c, rfl⟩ := hb _ _ _ _ e1
  cases e2
  exact ⟨W, ρ, S, s, .bl b, _, e1, fun W1 x L1 R1 ra => by cases ra; exact ⟨b, rfl, P W1 L1 R1⟩⟩
theorem outB_bool {o : Option Bool} {S S' : Store} {a : AV} (h : outB o S = .ok a S') : ∃ b, a = .bl b := by
  cases o with
  | none => cases h
  | some b => cases h; exact ⟨b, rfl⟩
theorem pt_cmpV (hu : X.A.units + 64 < cLine) {o : COp} (ha : PE X a (T X.K ma)) (hb : PE X b (T X.K mb)) (hm : behindInMarks (opC o) b = false) :
    PT X (.Compare a [opC o] [b] pos) (TB X.K fun ρ S => truD ((ma ρ S).bd fun x S1 => (mb ρ S1).bd fun y S2 => outB (cmpD o x y S2) S2)) := by
  refine (pt_cmpR (op_cmpV hu o) ha hb hm).w fun σ H Q h => ?_
  refine T_op2 (TB_bool (fun ρ S r S' e => ?_) h)
  obtain ⟨_, _, _, e⟩ := Out.bd_eq e
  obtain ⟨_, _, _, e⟩ := Out.bd_eq e
  exact outB_bool e
theorem pe_cmxV {F : FormC} (hf : OpR X (compareOp (opC F.o)) (R2D X.K F.sem)) (ha : PE X a (T X.K ma)) (hb : PE X b (T X.K mb)) (hm : behindInMarks (opC F.o) b = false) :
    PE X (.Compare a [opC F.o] [b] pos) (T X.K fun ρ S => (ma ρ S).bd fun x S1 => (mb ρ S1).bd fun y S2 => F.sem x y S2) :=
  (pe_cmpR hf ha hb hm).w fun _ _ _ h => T_op2 h
theorem pt_cmxV {F : FormC} (hf : OpR X (compareOp (opC F.o)) (R2D X.K F.sem)) (hb2 : ∀ x y S r S', F.sem x y S = .ok r S' → ∃ b, r = .bl b) (ha : PE X a (T X.K ma)) (hb : PE X b (T X.K mb)) (hm : behindInMarks (opC F.o) b = false) :
    PT X (.Compare a [opC F.o] [b] pos) (TB X.K fun ρ S => truD ((ma ρ S).bd fun x S1 => (mb ρ S1).bd fun y S2 => F.sem x y S2)) := by
  refine (pt_cmpR hf ha hb hm).w fun σ H Q h => ?_
  refine T_op2 (TB_bool (fun ρ S r S' e => ?_) h)
  obtain ⟨x, S1, -, e⟩ := Out.bd_eq e
  obtain ⟨y, S2, -, e⟩ := Out.bd_eq e
  exact hb2 _ _ _ _ _ e
theorem T_chain {K : PySem.W.Frag} {σ : L2.St} {H : Hp} {Q : VK} {o p : COp} (h : T K (fun ρ S => (ma ρ S).bd fun x S1 => (mb ρ S1).bd fun y S2 => match cmpD o x y S2 with
      | some true => (mc ρ S2).bd fun z S3 => outB (cmpD p y z S3) S3
      | some false => .ok (.bl false) S2
      | none => .no) σ H Q) : tChain (R2D K fun a b S => outB (cmpD o a b S) S) (R2D K fun a b S => outB (cmpD p a b S) S) (T K ma) (T K mb) (T K mc) σ H Q := by
  obtain ⟨W, ρ, S, s, P⟩ := h
  refine T.bd s P fun x S1 W1 v L1 s1 ra P1 => T.bd s1 P1 fun y S2 W2 u L2 s2 rb P2 => ?_
  refine ⟨W2, S2, x, y, rfl, s2.rep, ra.mono L2, rb, ?_⟩
  cases e : cmpD o x y S2 with
  | none => simp only [e] at P2; exact P2.no.elim
  | some t =>
    refine ⟨.bl t, S2, by simp only [e]; rfl, fun W3 z L3 R3 rz => ?_⟩
    cases rz
    refine ⟨t, rfl, ?_⟩
    cases t with
    | false =>
      simp only [e] at P2
      rw [if_neg (by decide)]
      exact (P2.mono L3).val R3 (.bl _)
    | true =>
      simp only [e] at P2
      rw [if_pos rfl]
      exact T.bd (s2.next L3 R3) (P2.mono L3) fun z S4 W4 w L4 s4 rc P4 => ⟨W4, S4, y, z, rfl, s4.rep, (rb.mono L3).mono L4, rc, P4⟩
theorem chain_bool {o p : COp} {ρ : Ev} {S S' : Store} {r : AV} (e : ((ma ρ S).bd fun x S1 => (mb ρ S1).bd fun y S2 => match cmpD o x y S2 with
      | some true => (mc ρ S2).bd fun z S3 => outB (cmpD p y z S3) S3
      | some false => .ok (.bl false) S2
      | none => .no) = .ok r S') : ∃ b, r = .bl b := by
  obtain ⟨_, _, _, e⟩ := Out.bd_eq e
  obtain ⟨_, _, _, e⟩ := Out.bd_eq e
  split at e
  · obtain ⟨_, _, _, e⟩ := Out.bd_eq e
    exact outB_bool e
  · cases e; exact ⟨_, rfl⟩
  · cases e
theorem lastMarks2 {op op' : CmpOp} {b c : Expr} (h : behindInMarks op' c = false) : lastMarks [op, op'] [b, c] = false := by
  show lastMarks [op'] [c] = false
  exact h
theorem pe_chainV (hu : X.A.units + 64 < cLine) {o p : COp} (ha : PE X a (T X.K ma)) (hb : PE X b (T X.K mb)) (hc : PE X c (T X.K mc)) (hm : behindInMarks (opC p) c = false) :
    PE X (.Compare a [opC o, opC p] [b, c] pos) (T X.K fun ρ S => (ma ρ S).bd fun x S1 => (mb ρ S1).bd fun y S2 => match cmpD o x y S2 with
      | some true => (mc ρ S2).bd fun z S3 => outB (cmpD p y z S3) S3
      | some false => .ok (.bl false) S2
      | none => .no) := (pe_chain (op_cmpV hu o) (op_cmpV hu p) ha hb hc (lastMarks2 hm)).w fun _ _ _ h => T_chain h
theorem pt_chainV (hu : X.A.units + 64 < cLine) {o p : COp} (ha : PE X a (T X.K ma)) (hb : PE X b (T X.K mb)) (hc : PE X c (T X.K mc)) (hm : behindInMarks (opC p) c = false) :
    PT X (.Compare a [opC o, opC p] [b, c] pos) (TB X.K fun ρ S => truD ((ma ρ S).bd fun x S1 => (mb ρ S1).bd fun y S2 => match cmpD o x y S2 with
      | some true => (mc ρ S2).bd fun z S3 => outB (cmpD p y z S3) S3
      | some false => .ok (.bl false) S2
      | none => .no)) := (pt_chain (op_cmpV hu o) (op_cmpV hu p) ha hb hc (lastMarks2 hm)).w fun _ _ _ h => T_chain (TB_bool (fun _ _ _ _ e => chain_bool e) h)
def andD (ma mb : Ev → Store → Out AV) : Ev → Store → Out AV := fun ρ S => (ma ρ S).bd fun x S1 => match truth S1 x with
    | some true => mb ρ S1
    | some false => .ok x S1
    | none => .no
def orD (ma mb : Ev → Store → Out AV) : Ev → Store → Out AV := fun ρ S => (ma ρ S).bd fun x S1 => match truth S1 x with
    | some true => .ok x S1
    | some false => mb ρ S1
    | none => .no
theorem T_and {K : PySem.W.Frag} {σ : L2.St} {H : Hp} {Q : VK} (h : T K (andD ma mb) σ H Q) : tAndT K (T K ma) (T K mb) σ H Q := by
  obtain ⟨W, ρ, S, s, P⟩ := h
  refine T.bd s P fun x S1 W1 v L1 s1 ra P1 => ?_
  cases e : truth S1 x with
  | none => simp only [e] at P1; exact P1.no.elim
  | some k =>
    refine ⟨k, tru_of s1.rep ra e, ?_⟩
    cases k with
    | true => simp only [e] at P1; rw [if_pos rfl]; exact ⟨W1, ρ, S1, s1, P1⟩
    | false => simp only [e] at P1; rw [if_neg (by decide)]; exact P1.val s1.rep ra
theorem T_or {K : PySem.W.Frag} {σ : L2.St} {H : Hp} {Q : VK} (h : T K (orD ma mb) σ H Q) : tOrT K (T K ma) (T K mb) σ H Q := by
  obtain ⟨W, ρ, S, s, P⟩ := h
  refine T.bd s P fun x S1 W1 v L1 s1 ra P1 => ?_
  cases e : truth S1 x with
  | none => simp only [e] at P1; exact P1.no.elim
  | some k =>
    refine ⟨k, tru_of s1.rep ra e, ?_⟩
    cases k with
    | false => simp only [e] at P1; rw [if_neg (by decide)]; exact ⟨W1, ρ, S1, s1, P1⟩
    | true => simp only [e] at P1; rw [if_pos rfl]; exact P1.val s1.rep ra
/-- a test, then what hangs on it -/
theorem TB_then {K : PySem.W.Frag} {W : Wd} {ρ : Ev} {S : Store} {σ : L2.St} {H : Hp} {Q' : Bool → Hp → Prop} {m : Ev → Store → Out AV} (s : Stt K W ρ S σ H) {a : AV} {S1 : Store} {b : Bool} (e : m ρ S = .ok a S1) (e' : truth S1 a = some b)
    (k : ∀ W1, Le W W1 → Stt K W1 ρ S1 σ W1.H → Q' b W1.H) : TB K (fun ρ S => truD (m ρ S)) σ H Q' := by
  refine ⟨W, ρ, S, s, b, S1, ?_, fun W1 L1 R1 => k W1 L1 (s.next L1 R1)⟩
  simp only [truD, e, bd_ok, e']
  rfl
theorem tru_and {K : PySem.W.Frag} {σ : L2.St} {H : Hp} {Q : Bool → Hp → Prop} (h : TB K (fun ρ S => truD (andD ma mb ρ S)) σ H Q) : tAnd (TB K fun ρ S => truD (ma ρ S)) (TB K fun ρ S => truD (mb ρ S)) σ H Q := by
  obtain ⟨W, ρ, S, s, b, S', e, P⟩ := h
  obtain ⟨r, S2, e, er⟩ := Out.bd_eq e
  obtain ⟨a, S1, e1, e2⟩ := Out.bd_eq e
  cases e3 : truth S1 a with
  | none => simp only [e3] at e2; cases e2
  | some k =>
    refine TB_then s e1 e3 fun W1 L1 s1 => ?_
    cases k with
    | true =>
      simp only [e3] at e2
      rw [if_pos rfl]
      exact ⟨W1, ρ, S1, s1, b, S', by simp only [e2, truD, bd_ok]; exact er, fun W2 L2 R2 => P W2 (L1.trans L2) R2⟩
    | false =>
      simp only [e3] at e2
      rw [if_neg (by decide)]
      cases e2
      rw [e3] at er
      cases er
      exact P W1 L1 s1.rep
theorem tru_or {K : PySem.W.Frag} {σ : L2.St} {H : Hp} {Q : Bool → Hp → Prop} (h : TB K (fun ρ S => truD (orD ma mb ρ S)) σ H Q) : tOr (TB K fun ρ S => truD (ma ρ S)) (TB K fun ρ S => truD (mb ρ S)) σ H Q := by
  obtain ⟨W, ρ, S, s, b, S', e, P⟩ := h
  obtain ⟨r, S2, e, er⟩ := Out.bd_eq e
  obtain ⟨a, S1, e1, e2⟩ := Out.bd_eq e
  cases e3 : truth S1 a with
  | none => simp only [e3] at e2; cases e2
  | some k =>
    refine TB_then s e1 e3 fun W1 L1 s1 => ?_
    cases k with
    | false =>
      simp only [e3] at e2
      rw [if_neg (by decide)]
      exact ⟨W1, ρ, S1, s1, b, S', by simp only [e2, truD, bd_ok]; exact er, fun W2 L2 R2 => P W2 (L1.trans L2) R2⟩
    | true =>
      simp only [e3] at e2
      rw [if_pos rfl]
      cases e2
      rw [e3] at er
      cases er
      exact P W1 L1 s1.rep
theorem tru_not {K : PySem.W.Frag} {σ : L2.St} {H : Hp} {Q : Bool → Hp → Prop} (h : TB K (fun ρ S => truD ((ma ρ S).bd fun x S1 => outB ((truth S1 x).map (!·)) S1)) σ H Q) : tNot (TB K fun ρ S => truD (ma ρ S)) σ H Q := by
  obtain ⟨W, ρ, S, s, b, S', e, P⟩ := h
  obtain ⟨r, S2, e, er⟩ := Out.bd_eq e
  obtain ⟨a, S1, e1, e2⟩ := Out.bd_eq e
  cases e3 : truth S1 a with
  | none => simp only [e3] at e2; cases e2
  | some k =>
    simp only [e3] at e2
    cases e2
    cases er
    exact TB_then s e1 e3 fun W1 L1 s1 => P W1 L1 s1.rep
theorem T_ite {K : PySem.W.Frag} {σ : L2.St} {H : Hp} {Q : VK} (h : T K (fun ρ S => (mc ρ S).bd fun x S1 => match truth S1 x with
    | some true => ma ρ S1
    | some false => mb ρ S1
    | none => .no) σ H Q) : tIf (TB K fun ρ S => truD (mc ρ S)) (T K ma) (T K mb) σ H Q := by
  obtain ⟨W, ρ, S, s, r, S', e, P⟩ := h
  obtain ⟨a, S1, e1, e2⟩ := Out.bd_eq e
  cases e3 : truth S1 a with
  | none => simp only [e3] at e2; cases e2
  | some k =>
    refine TB_then s e1 e3 fun W1 L1 s1 => ?_
    cases k with
    | true => simp only [e3] at e2; rw [if_pos rfl]; exact ⟨W1, ρ, S1, s1, r, S', e2, P.mono L1⟩
    | false => simp only [e3] at e2; rw [if_neg (by decide)]; exact ⟨W1, ρ, S1, s1, r, S', e2, P.mono L1⟩

/-! displays, slices, calls -/
variable {ml : Ev → Store → Out (List AV)} {es : List Expr}
theorem pe_tupV {kk : Nat} (h : PA X es (TL X.K ml)) : PE X (.Tuple es kk pos) (T X.K fun ρ S => (ml ρ S).bd fun xs S1 => if xs.length ≤ sizeLine then .ok (.tup xs) S1 else .no) := by
  refine (pe_tup h).w fun σ H Q h => ?_
  obtain ⟨W, ρ, S, s, P⟩ := h
  refine TL.bd s P fun xs S1 W1 vs L1 s1 r P1 => ?_
  obtain ⟨hz, P1⟩ := P1.ite
  exact ⟨by rw [← r.len]; exact hz, fun p hp => P1.tup s1.rep r hp⟩
theorem pe_lstV {m : Bool} (h : PA X es (TL X.K ml)) : PE X (.List es pos) (T X.K fun ρ S => (ml ρ S).bd fun xs S1 => if xs.length ≤ sizeLine then mkL m xs S1 else .no) := by
  refine (pe_lst h).w fun σ H Q h => ?_
  obtain ⟨W, ρ, S, s, P⟩ := h
  refine TL.bd s P fun xs S1 W1 vs L1 s1 r P1 => ?_
  obtain ⟨hz, P1⟩ := P1.ite
  exact ⟨by rw [← r.len]; exact hz, fun p hp => P1.mk s1.rep r hp⟩
theorem pa_nilV : PA X [] (TL X.K fun _ S => .ok [] S) := by
  refine pa_nil.w fun σ H Q h => ?_
  obtain ⟨W, ρ, S, s, r, S', e, P⟩ := h
  cases e
  have := P W [] (Le.refl W) s.rep .nil
  rw [s.hH] at this
  exact this
theorem pa_consV {e : Expr} (ha : PE X e (T X.K ma)) (hl : PA X es (TL X.K ml)) (hs : odd e = false) : PA X (e :: es) (TL X.K fun ρ S => (ma ρ S).bd fun x S1 => (ml ρ S1).bd fun xs S2 => .ok (x :: xs) S2) := by
  refine (pa_cons ha hl (odd_star hs)).w fun σ H Q h => ?_
  obtain ⟨W, ρ, S, s, r, S', e, P⟩ := h
  obtain ⟨a, S1, e1, e2⟩ := Out.bd_eq e
  obtain ⟨l, S2, e2, e3⟩ := Out.bd_eq e2
  cases e3
  exact ⟨W, ρ, S, s, a, S1, e1, fun W1 x L1 R1 ra => ⟨W1, ρ, S1, s.next L1 R1, l, _, e2, fun W2 xs L2 R2 rl => P W2 (x :: xs) (L1.trans L2) R2 (.cons (ra.mono L2) rl)⟩⟩
/-- a part of a slice -/
def TOd (K : PySem.W.Frag) (m : Ev → Store → Out AV) : TO := fun σ H Q => ∃ W ρ S, Stt K W ρ S σ H ∧ ∃ a S' o, m ρ S = .ok a S' ∧ partD a = some o ∧ ∀ W', Le W W' → Rep K W' S' → Q o W'.H
theorem po_noneV : PO X none (TOd X.K fun _ S => .ok .non S) := by
  refine po_none.w fun σ H Q h => ?_
  obtain ⟨W, ρ, S, s, a, S', o, e, e2, P⟩ := h
  cases e
  cases e2
  have := P W (Le.refl W) s.rep
  rw [s.hH] at this
  exact this
theorem po_someV {e : Expr} (ha : PE X e (T X.K ma)) : PO X (some e) (TOd X.K fun ρ S => prt false (ma ρ S)) := by
  refine (po_some ha).w fun σ H Q h => ?_
  obtain ⟨W, ρ, S, s, a, S', o, e, e2, P⟩ := h
  obtain ⟨b, S1, e1, e3⟩ := Out.bd_eq e
  cases b with
  | int i =>
    cases e3
    cases e2
    exact ⟨W, ρ, S, s, .int i, S', e1, fun W1 x L1 R1 ra => by cases ra; exact ⟨i, rfl, P W1 L1 R1⟩⟩
  | _ => cases e3
theorem pe_slV {m : Bool} {lo hi : Option Expr} {p2 : Pos} {ml mh : Ev → Store → Out AV} (ha : PE X a (T X.K ma)) (hl : PO X lo (TOd X.K ml)) (hh : PO X hi (TOd X.K mh)) :
    PE X (.Subscript a (.Slice lo hi none p2) pos) (T X.K fun ρ S => (ma ρ S).bd fun x S1 => (ml ρ S1).bd fun y S2 => (mh ρ S2).bd fun z S3 => slD m x y z S3) := by
  refine (pe_slice (sl_V (m := m)) ha hl hh).w fun σ H Q h => ?_
  obtain ⟨W, ρ, S, s, P⟩ := h
  refine T.bd s P fun x S1 W1 v L1 s1 ra P1 => ?_
  obtain ⟨r, S', e, P1⟩ := P1
  obtain ⟨y, S2, e1, e⟩ := Out.bd_eq e
  obtain ⟨z, S3, e2, e⟩ := Out.bd_eq e
  have e : optD (partD y) (fun lo => optD (partD z) fun hi => cutD m x lo hi S3) = .ok r S' := e
  cases ey : partD y with
  | none => rw [ey] at e; cases e
  | some lo =>
    cases ez : partD z with
    | none => rw [ey, ez] at e; cases e
    | some hi =>
      rw [ey, ez] at e
      exact ⟨W1, ρ, S1, s1, y, S2, lo, e1, ey, fun W2 L2 R2 => ⟨W2, ρ, S2, s1.next L2 R2, z, S3, hi, e2, ez, fun W3 L3 R3 => ⟨W3, S3, x, rfl, R3, (ra.mono L2).mono L3, r, S', e, (P1.mono L2).mono L3⟩⟩⟩
theorem pe_revV {m : Bool} {kk : Nat} {p1 p2 p3 : Pos} (ha : PE X a (T X.K ma)) : PE X (.Subscript a (.Slice none none (some (.UnaryOp .USub (.Constant (.int 1) kk p1) p2)) p3) pos) (T X.K fun ρ S => (ma ρ S).bd fun x S1 => revD m x S1) := by
  refine (pe_revL ha).w fun σ H Q h => ?_
  obtain ⟨W, ρ, S, s, P⟩ := h
  refine T.bd s P fun x S1 W1 v L1 s1 ra P1 => ?_
  obtain ⟨l, e, P1⟩ := P1.opt
  obtain ⟨p, xs, rfl, h1, r1⟩ := lst_it s1.rep ra e
  exact ⟨p, xs, rfl, SqL.of h1, fun q hq => P1.mk s1.rep r1.reverse hq⟩
theorem pe_lrgV {m : Bool} {p1 p2 pos' : Pos} {l r : Str} (hl : l = Str.ofString "list") (hr : r = Str.ofString "range") (hc : X.calm = true) (g1 : Gl X l) (m1 : X.mg (Str.ofString "list") = none) (g2 : Gl X r) (m2 : X.mg (Str.ofString "range") = none) (ha : PE X a (T X.K ma)) (ho : odd a = false) :
    PE X (.Call (.Name l p1) [.Call (.Name r p2) [a] [] pos'] [] pos) (T X.K fun ρ S => (ma ρ S).bd fun x S1 => match x with
    | .int j => if -(2 ^ 60) ≤ j ∧ j ≤ 10000000 then mkL m ((List.range j.toNat).map fun (k : Nat) => .int k) S1 else .no
    | _ => .no) := by
  subst hl hr
  refine (pe_listRg hc g1 m1 (prg_1 g2 m2 ha (odd_star ho))).w fun σ H Q h => ?_
  obtain ⟨W, ρ, S, s, P⟩ := h
  refine T.bd s P fun x S1 W1 v L1 s1 ra P1 => ?_
  cases x with
  | int j =>
    cases ra
    obtain ⟨⟨h1, h2⟩, P1⟩ := P1.ite
    refine ⟨j, rfl, ⟨by omega, by omega, by omega, by omega, by omega⟩, fun q hq => ?_⟩
    have hr : RVs X.K W1 ((List.range j.toNat).map fun (k : Nat) => .int k) (rgV 0 j) := by
      unfold rgV
      have : (j - 0).toNat = j.toNat := by omega
      rw [this]
      have gen : ∀ l : List Nat, RVs X.K W1 (l.map fun (k : Nat) => .int k) (l.map fun i => V.int (0 + (i : Nat))) := by
        intro l
        induction l with
        | nil => exact .nil
        | cons n l ih =>
          refine .cons ?_ ih
          have e : (0 + ((n : Nat) : Int)) = n := by omega
          show RV X.K W1 (.int n) (.int (0 + (n : Nat)))
          rw [e]
          exact .int _
      exact gen _
    exact P1.mk s1.rep hr hq
  | _ => exact P1.no.elim
theorem pe_lrg2V {m : Bool} {p1 p2 pos' : Pos} {l r : Str} (hl : l = Str.ofString "list") (hr : r = Str.ofString "range") (hc : X.calm = true) (g1 : Gl X l) (m1 : X.mg (Str.ofString "list") = none) (g2 : Gl X r) (m2 : X.mg (Str.ofString "range") = none) (ha : PE X a (T X.K ma)) (ho : odd a = false) (hb : PE X b (T X.K mb)) (ho2 : odd b = false) :
    PE X (.Call (.Name l p1) [.Call (.Name r p2) [a, b] [] pos'] [] pos) (T X.K fun ρ S => (ma ρ S).bd fun x S1 => (mb ρ S1).bd fun y S2 => match x, y with
    | .int i, .int j => if -(2 ^ 60) ≤ i ∧ i ≤ 2 ^ 60 ∧ -(2 ^ 60) ≤ j ∧ j ≤ 2 ^ 60 ∧ j - i ≤ 10000000 then mkL m ((List.range (j - i).toNat).map fun (k : Nat) => .int (i + k)) S2 else .no
    | _, _ => .no) := by
  subst hl hr
  refine (pe_listRg hc g1 m1 (prg_2 g2 m2 ha hb (odd_star ho) (odd_star ho2) (by rw [odd_star ho2]; rfl))).w fun σ H Q h => ?_
  obtain ⟨W, ρ, S, s, P⟩ := h
  refine T.bd s P fun x S1 W1 v L1 s1 ra P1 => T.bd s1 P1 fun y S2 W2 v2 L2 s2 rb P2 => ?_
  cases x with
  | int i =>
    cases y with
    | int j =>
      cases ra
      cases rb
      obtain ⟨⟨h1, h2, h3, h4, h5⟩, P2⟩ := P2.ite
      refine ⟨i, j, rfl, rfl, ⟨by omega, by omega, by omega, by omega, by omega⟩, fun q hq => ?_⟩
      have gen : ∀ l : List Nat, RVs X.K W2 (l.map fun (k : Nat) => .int (i + k)) (l.map fun k => V.int (i + (k : Nat))) := by
        intro l
        induction l with
        | nil => exact .nil
        | cons n l ih => exact .cons (.int _) ih
      exact P2.mk s2.rep (gen _) hq
    | _ => exact P2.no.elim
  | _ =>
    exfalso
    obtain ⟨r, S3, e, _⟩ := P1
    obtain ⟨_, _, _, e2⟩ := Out.bd_eq e
    cases e2
theorem rg_size {i j k : Int} (hk : 0 < k) : Builtin.Range.rangeSize i j k = (rgN i j k : Int) := by
  unfold Builtin.Range.rangeSize rgN
  rw [if_pos (by omega)]
  by_cases h : i < j
  · have e : (j - i - 1) / k + 1 = (j - i + k - 1) / k := by
      rw [show j - i + k - 1 = (j - i - 1) + 1 * k by omega, Int.add_mul_ediv_right _ _ (by omega)]
    have : 0 ≤ (j - i - 1) / k := Int.ediv_nonneg (by omega) (by omega)
    rw [if_pos h, e]
    omega
  · have : (j - i + k - 1) / k < 1 := Int.ediv_lt_of_lt_mul hk (by omega)
    rw [if_neg h]
    omega
theorem rg_le {i j k : Int} (hk : 0 < k) (h : j - i ≤ 10000000) : rgN i j k ≤ 10000000 := by
  unfold rgN
  have : (j - i + k - 1) / k ≤ 10000000 := by
    refine Int.ediv_le_of_le_mul hk ?_
    have : 10000000 * 1 ≤ 10000000 * k := Int.mul_le_mul_of_nonneg_left (by omega) (by omega)
    by_cases q : j - i ≤ 1
    · omega
    · have e := Int.mul_nonneg (show 0 ≤ (10000000 : Int) - 1 by omega) (show 0 ≤ k - 1 by omega)
      rw [Int.mul_sub, Int.sub_mul] at e
      omega
  omega
theorem rg_ok {i j k : Int} (h : -(2 ^ 60) ≤ i ∧ i ≤ 2 ^ 60 ∧ -(2 ^ 60) ≤ j ∧ j ≤ 2 ^ 60 ∧ j - i ≤ 10000000 ∧ 0 < k ∧ k ≤ 1000000) : RgC i j k (rgN i j k) := by
  obtain ⟨h1, h2, h3, h4, h5, h6, h7⟩ := h
  have hl := rg_le h6 h5
  refine ⟨by omega, by omega, ?_, rg_size h6⟩
  unfold Builtin.Range.small
  rw [rg_size h6]
  simp only [Builtin.Range.rangeFitsLong, Bool.and_eq_true, Bool.or_eq_true, decide_eq_true_eq, beq_iff_eq, show k > 0 from h6, if_true]
  omega
theorem intsQ_it {W : Wd} {S : Store} {Q : VK} {a : AV} {x : V} {f : List Int → Out AV} (R : Rep X.K W S) (ra : RV X.K W a x) (P : PostO X.K W (intsQ S a f) Q) : ∃ p ns, x = .ref p ∧ (SqL X.K W.H p (ns.map V.int) ∨ SqT X.K W.H p (ns.map V.int)) ∧ PostO X.K W (f ns) Q := by
  have gen : PostO X.K W (intsD S a f) Q → ∃ p ns, x = .ref p ∧ (SqL X.K W.H p (ns.map V.int) ∨ SqT X.K W.H p (ns.map V.int)) ∧ PostO X.K W (f ns) Q := fun P => by
    obtain ⟨p, ns, e, h, q⟩ := ints_it R ra P
    exact ⟨p, ns, e, .inl h, q⟩
  cases a with
  | tup l =>
    obtain ⟨ns, e, P2⟩ := PostO.opt (show PostO X.K W (optD (intsOf l) f) Q from P)
    obtain ⟨p, xs, rfl, h, r⟩ := ra.itT
    have el := intsOf_eq e
    subst el
    rw [RVs.of_ints r] at h
    exact ⟨p, ns, rfl, .inr h, P2⟩
  | _ => exact gen P
theorem pe_ssetV {m : Bool} {p1 p2 pos' : Pos} {l r : Str} (hl : l = Str.ofString "sorted") (hr : r = Str.ofString "set") (hc : X.calm = true) (g1 : Gl X l) (m1 : X.mg (Str.ofString "sorted") = none) (g2 : Gl X r) (m2 : X.mg (Str.ofString "set") = none) (ha : PE X a (T X.K ma)) (ho : odd a = false) :
    PE X (.Call (.Name l p1) [.Call (.Name r p2) [a] [] pos'] [] pos) (T X.K fun ρ S => (ma ρ S).bd fun x S1 => intsQ S1 x fun ns => if ns.length < 61 then mkL m ((sortI (dedI ns)).map .int) S1 else .no) := by
  subst hl hr
  have h1 := pe_callTy (pos := pos') (p := p2) (cr_setL hc) g2 m2 PyProof.Rows.boot_set (pa_cons ha pa_nil (odd_star ho)) (by decide) (by decide) (odd_star ho)
  refine (pe_callB (cr_sortedSet hc) g1 m1 PyProof.Rows.boot_sorted (pa_cons h1 pa_nil)).w fun σ H Q h => ?_
  obtain ⟨W, ρ, S, s, P⟩ := h
  show T X.K ma σ H fun v H1 => rSetL X.K X.w [v] H1 fun y H2 => rSortedSet X.w [y] H2 Q
  refine T.bd s P fun x S1 W1 v L1 s1 ra P1 => ?_
  obtain ⟨p, ns, rfl, hq, P1⟩ := intsQ_it s1.rep ra P1
  obtain ⟨hz, P1⟩ := P1.ite
  refine ⟨p, ns, rfl, hq, by omega, fun q c hcn hf => ?_⟩
  refine ⟨q, _, c, rfl, upd_same, by omega, fun ns' p' pw mem hlen hp' => ?_⟩
  have e : ns' = sortI (dedI ns) := pw_one pw (pw_riseI ns) fun k => (mem k).trans (decide_eq_true_iff.trans (mem_riseI (l := ns)).symm)
  rw [e]
  exact (P1.mono (Le.lay hf)).mk (s1.rep.lay hf) (RVs.ints _) hp'
theorem backTo_any {pos : Pos} {l : List (Bool × Sem Value)} (h : l.any (·.1) = false) : (backTo pos l).any (·.1) = false := by
  rw [← h]
  unfold backTo
  rw [List.any_map]
  rfl
/-- list(range(i, j, k)) -/
def tLR3 (ta : TA) : TE := fun σ H Q => ta σ H fun vs H1 => ∃ (i j k : Int) (n : Nat), vs = [.int i, .int j, .int k] ∧ RgC i j k n ∧ n ≤ 2 ^ 24 ∧ ∀ q, H1 q = none → Q (.ref q) (upd H1 q (.lst ((List.range n).map fun (t : Nat) => V.int (i + (t : Int) * k))))
theorem pe_listR3 {ta : TA} {p1 p2 pos' : Pos} (hc : X.calm = true) (g1 : Gl X "list") (m1 : X.mg "list" = none) (g2 : Gl X "range") (m2 : X.mg "range" = none) (ha : PA X [a, b, c] ta)
    (hs : starEach [a, b, c] X.env = (false, eval a X.env) :: starEach [b, c] X.env) (hpl : (backTo pos' (starEach [b, c] X.env)).any (·.1) = false) :
    PE X (.Call (.Name "list" p1) [.Call (.Name "range" p2) [a, b, c] [] pos'] [] pos) (tLR3 ta) := by
  refine ⟨fun pins s σ H Q I h => ?_⟩
  have na : starEach [.Call (.Name "range" p2) [a, b, c] [] pos'] X.env = (false, eval (.Call (.Name "range" p2) [a, b, c] [] pos') X.env) :: starEach [] X.env := rfl
  have made : wpAny (model X.prog X.w) X.A (eval (.Call (.Name "range" p2) [a, b, c] [] pos') X.env) (fun x s' => ∃ (r : Addr) (i j k : Int) (n : Nat) (t u v : Tok) (H' : Hp), x = .ref r ∧ IsRange s'.heap r i j k t u v ∧ Inv X pins σ H' s' ∧ RgC i j k n ∧ n ≤ 2 ^ 24 ∧ ∀ q, H' q = none → Q (.ref q) (upd H' q (.lst ((List.range n).map fun (t : Nat) => V.int (i + (t : Int) * k))))) X.xe s := by
    refine Call_ (ld_blt I g2 m2 boot_range (PyProof.Rows.callWith_type1 (thn (ha.run pos' pins s σ H _ I h) fun us s1 ⟨vs, H1, I1, r1, q1⟩ => ?_) hs hpl))
    obtain ⟨i, j, k, n, e, hr, hn, q⟩ := q1
    subst e
    rcases r1 with _ | ⟨r, _ | ⟨r', _ | ⟨r'', _ | _⟩⟩⟩
    · obtain ⟨t, rfl⟩ := r
      obtain ⟨t', rfl⟩ := r'
      obtain ⟨t'', rfl⟩ := r''
      exact call_range_3 hr.1 ⟨_, i, j, k, n, t, t', t'', H1, rfl, IsRange.new _ _ _ _ _ _ _, I1.kept fun b u e => Heap.get?_push_of_some _ e, hr, hn, q⟩ (.inl (PyProof.noPylong_small hr.2.1))
  refine Call_ (ld_blt I g1 m1 boot_list (PyProof.Rows.callWith_type1 (args_cons (thn made fun x s1 hx => args_nil ?_) na) na))
  obtain ⟨r, i, j, k, n, t, u, v, H1, rfl, hr, I1, ⟨c0, c1, c2, c3⟩, hn, q⟩ := hx
  refine call_list_range (n := n) (I1.ok.hd hc) hr c2 c3 hn fun h' tk acc c' hk e' hi => ?_
  have hlen : acc.toList.length = n := by rw [Array.length_toList]; exact hi.1
  have hv : Vals ((List.range n).map fun (t : Nat) => V.int (i + (t : Int) * k)) acc.toList := by
    rw [← hlen]
    refine vals_of_get acc.toList _ fun m u hm => ?_
    exact hi.2 m u (by rw [← hm, Array.getElem?_toList])
  refine ⟨.ref s1.heap.objs.size, upd H1 s1.heap.objs.size (.lst ((List.range n).map fun (t : Nat) => V.int (i + (t : Int) * k))), I1.laid hk (Nat.le_refl _) (show ObjOk X.prog X.w _ _ _ (.lst ((List.range n).map fun (t : Nat) => V.int (i + (t : Int) * k))) from ⟨?_, acc.toList, c', hv, ?_⟩), rfl, q _ (I1.hok.fresh (Nat.le_refl _))⟩
  · rw [List.length_map, List.length_range, sizeLine_eq]; omega
  · rw [Array.toArray_toList]; exact e'
theorem pe_lrg3V {m : Bool} {p1 p2 pos' : Pos} {l r : Str} (hl : l = Str.ofString "list") (hr : r = Str.ofString "range") (hc : X.calm = true) (g1 : Gl X l) (m1 : X.mg (Str.ofString "list") = none) (g2 : Gl X r) (m2 : X.mg (Str.ofString "range") = none) (ha : PE X a (T X.K ma)) (ho : odd a = false) (hb : PE X b (T X.K mb)) (ho2 : odd b = false) (hc3 : PE X c (T X.K mc)) (ho3 : odd c = false) :
    PE X (.Call (.Name l p1) [.Call (.Name r p2) [a, b, c] [] pos'] [] pos) (T X.K fun ρ S => (ma ρ S).bd fun x S1 => (mb ρ S1).bd fun y S2 => (mc ρ S2).bd fun z S3 => match x, y, z with
    | .int i, .int j, .int k => if -(2 ^ 60) ≤ i ∧ i ≤ 2 ^ 60 ∧ -(2 ^ 60) ≤ j ∧ j ≤ 2 ^ 60 ∧ j - i ≤ 10000000 ∧ 0 < k ∧ k ≤ 1000000 then mkL m ((List.range (rgN i j k)).map fun (t : Nat) => .int (i + t * k)) S3 else .no
    | _, _, _ => .no) := by
  subst hl hr
  refine (pe_listR3 hc g1 m1 g2 m2 (pa_consV ha (pa_consV hb (pa_consV hc3 pa_nilV ho3) ho2) ho) (odd_star ho) (backTo_any (by rw [odd_star ho2, odd_star ho3]; rfl))).w fun σ H Q h => ?_
  obtain ⟨W, ρ, S, st, P⟩ := h
  obtain ⟨r, S', e, p⟩ := P
  obtain ⟨x, S1, k1, e2⟩ := Out.bd_eq e
  obtain ⟨y, S2, k2, e3⟩ := Out.bd_eq e2
  obtain ⟨z, S3, k3, e4⟩ := Out.bd_eq e3
  have : ∃ i j k, x = .int i ∧ y = .int j ∧ z = .int k ∧ (-(2 ^ 60) ≤ i ∧ i ≤ 2 ^ 60 ∧ -(2 ^ 60) ≤ j ∧ j ≤ 2 ^ 60 ∧ j - i ≤ 10000000 ∧ 0 < k ∧ k ≤ 1000000) ∧ mkL m ((List.range (rgN i j k)).map fun (t : Nat) => .int (i + t * k)) S3 = .ok r S' := by
    split at e4
    · split at e4
      · rename_i hz
        exact ⟨_, _, _, rfl, rfl, rfl, hz, e4⟩
      · cases e4
    · cases e4
  obtain ⟨i, j, k, rfl, rfl, rfl, hz, e5⟩ := this
  refine ⟨W, ρ, S, st, [.int i, .int j, .int k], S3, by simp [k1, k2, k3], fun W1 xs L1 R1 rs => ?_⟩
  have P1 : PostO X.K W1 (mkL m ((List.range (rgN i j k)).map fun (t : Nat) => .int (i + t * k)) S3) Q := ⟨r, S', e5, p.mono L1⟩
  rcases rs with _ | ⟨r1, _ | ⟨r2, _ | ⟨r3, _ | _⟩⟩⟩
  · cases r1
    cases r2
    cases r3
    have gen : ∀ l : List Nat, RVs X.K W1 (l.map fun (t : Nat) => .int (i + (t : Int) * k)) (l.map fun (t : Nat) => V.int (i + (t : Int) * k)) := by
      intro l
      induction l with
      | nil => exact .nil
      | cons n l ih => exact .cons (.int _) ih
    exact ⟨i, j, k, _, rfl, rg_ok hz, Nat.le_trans (rg_le hz.2.2.2.2.2.1 hz.2.2.2.2.1) (by decide), fun q hq => P1.mk R1 (gen _) hq⟩
theorem pe_primV (hu : X.A.units + 64 < cLine) {m : Bool} {p : Prim} {x : Str} {p1 : Pos} {e1 : Expr} (hx : x = Str.ofString (primN p)) (hp : primOk p = true) (hc : X.calm = true) (g : Gl X x) (gd : (x == ("__debug__" : Str)) = false) (hm : X.mg (Str.ofString (primN p)) = none) (ha : PA X (e1 :: es) (TL X.K ml)) (ho : odd e1 = false)
    (hs : (starEach es X.env).any (·.1) = false) : PE X (.Call (.Name x p1) (e1 :: es) [] pos) (T X.K fun ρ S => (ml ρ S).bd fun xs S1 => primD m p xs S1) := by
  subst hx
  have hbt := backTo_any (pos := pos) hs
  have fin : ∀ σ H Q, T X.K (fun ρ S => (ml ρ S).bd fun xs S1 => primD m p xs S1) σ H Q → tCB (RLD X.K (primD m p)) (TL X.K ml) σ H Q := fun σ H Q h => by
    obtain ⟨W, ρ, S, s, P⟩ := h
    exact TL.bd s P fun xs S1 W1 vs L1 s1 r P1 => ⟨W1, S1, xs, rfl, s1.rep, r, P1⟩
  cases ht : primT p with
  | true =>
    have hv : primV p = .type (primN p) := by unfold primV; rw [if_pos ht]
    have q := prim_ok (X := X) hc hu (m := m) p hp
    rw [hv] at q
    exact (pe_callTy q g hm (by rw [boot_prim, hv]) ha (primN_ne p) gd (odd_star ho) hbt).w fin
  | false =>
    have hv : primV p = .builtin (primN p) := by unfold primV; rw [if_neg (by simp [ht])]
    have q := prim_ok (X := X) hc hu (m := m) p hp
    rw [hv] at q
    exact (pe_callB q g hm (by rw [boot_prim, hv]) ha (primN_ne p) gd (odd_star ho) hbt).w fin
theorem pe_callV {k : Nat} {x f : Str} {d : Fn} {p1 : Pos} (hx : x = f) (F : Fx X.prog X.w X.K X.mg X.base k f d) (hr : Room k X.A) (g : Gl X x) (gd : (x == ("__debug__" : Str)) = false) (ha : PA X es (TL X.K ml)) (ho : ∀ e r, es = e :: r → odd e = false ∧ (starEach r X.env).any (·.1) = false)
    (h0 : es = [] → ml = fun _ S => .ok [] S) : PE X (.Call (.Name x p1) es [] pos) (T X.K fun ρ S => (ml ρ S).bd fun xs S1 => d xs S1) := by
  subst hx
  obtain ⟨f, fd, ps, hm, hk, hb, har, F⟩ := F
  have fin : ∀ σ H Q, T X.K (fun ρ S => (ml ρ S).bd fun xs S1 => d xs S1) σ H Q → tCall (spOf X.K d) [] E0 (TL X.K ml) σ H Q := fun σ H Q h => by
    obtain ⟨W, ρ, S, s, P⟩ := h
    exact TL.bd s P fun xs S1 W1 vs L1 s1 r P1 => by rw [List.append_nil]; exact ⟨W1, S1, xs, rfl, s1.rep, r, P1⟩
  cases es with
  | nil =>
    refine (pe_call0 F hr g hm hk hb .nil pass0 gd).w fun σ H Q h => ?_
    obtain ⟨W, ρ, S, s, P⟩ := h
    rw [h0 rfl] at P
    exact ⟨W, S, [], s.hH, s.rep, .nil, P⟩
  | cons e r =>
    obtain ⟨h1, h2⟩ := ho e r rfl
    exact (pe_call F hr g hm hk hb .nil pass0 ha gd (odd_star h1) (backTo_any h2)).w fin

/-! methods of what is built in -/
theorem append_V {m : Bool} : MtR X "list.append" (fun x xs H Q => ∃ W S a as, W.H = H ∧ Rep X.K W S ∧ RV X.K W a x ∧ RVs X.K W as xs ∧ PostO X.K W (mthD m .append a as S) Q) := by
  rintro pins s σ H x xs v us Q I rx rs ⟨W, S, a, as, rfl, R, ra, rl, P⟩
  cases a with
  | loc i =>
    cases rl with
    | nil => exact P.no.elim
    | cons rb t => cases t with
      | cons _ _ => exact P.no.elim
      | nil =>
        rename_i b y
        cases e1 : S[i]? with
        | none => simp only [mthD, e1] at P; exact P.no.elim
        | some o =>
          cases o with
          | lst l =>
            simp only [mthD, e1] at P
            obtain ⟨hz, P⟩ := P.ite
            cases ra with
            | loc hi =>
              obtain ⟨ys, h1, r1⟩ := R.obj i _ e1
              refine mt_append pins s σ W.H _ _ v us Q I rx rs ⟨W.φ i, ys, y, rfl, rfl, h1, by rw [← r1.len]; exact hz, ?_⟩
              obtain ⟨r, S', e, P⟩ := P
              cases e
              exact P (W.lay (W.φ i) (.lst (ys ++ [y]))) _ (Le.wr R hi (R.nlk e1 rfl)) (R.wr hi (R.nlk e1 rfl) ⟨_, upd_same, (r1.mono (Le.wr R hi (R.nlk e1 rfl))).append (.cons (rb.mono (Le.wr R hi (R.nlk e1 rfl))) .nil)⟩) .non
          | _ => simp only [mthD, e1] at P; exact P.no.elim
  | _ => cases as <;> first | exact P.no.elim | (rename_i l; cases l <;> exact P.no.elim)
theorem pop0_V {m : Bool} : MtR X "list.pop" (fun x xs H Q => ∃ W S a as, W.H = H ∧ Rep X.K W S ∧ RV X.K W a x ∧ RVs X.K W as xs ∧ PostO X.K W (mthD m .pop0 a as S) Q) := by
  rintro pins s σ H x xs v us Q I rx rs ⟨W, S, a, as, rfl, R, ra, rl, P⟩
  cases a with
  | loc i =>
    cases rl with
    | cons _ _ => exact P.no.elim
    | nil =>
      cases e1 : S[i]? with
      | none => simp only [mthD, e1] at P; exact P.no.elim
      | some o =>
        cases o with
        | lst l =>
          simp only [mthD, e1] at P
          obtain ⟨c, hc, P⟩ := P.opt
          cases ra with
          | loc hi =>
            obtain ⟨ys, h1, r1⟩ := R.obj i _ e1
            obtain ⟨y, h2, r2⟩ := r1.get hc
            refine mt_pop pins s σ W.H _ _ v us Q I rx rs ⟨W.φ i, ys, y, rfl, rfl, h1, by rw [← r1.len]; exact h2, ?_⟩
            obtain ⟨r, S', e, P⟩ := P
            cases e
            exact P (W.lay (W.φ i) (.lst ys.dropLast)) _ (Le.wr R hi (R.nlk e1 rfl)) (R.wr hi (R.nlk e1 rfl) ⟨_, upd_same, (r1.mono (Le.wr R hi (R.nlk e1 rfl))).dropLast⟩) (r2.mono (Le.wr R hi (R.nlk e1 rfl)))
        | _ => simp only [mthD, e1] at P; exact P.no.elim
  | _ => cases as <;> first | exact P.no.elim | (rename_i l; cases l <;> exact P.no.elim)
theorem pop_V {m : Bool} : MtR X "list.pop" (fun x xs H Q => ∃ W S a as, W.H = H ∧ Rep X.K W S ∧ RV X.K W a x ∧ RVs X.K W as xs ∧ PostO X.K W (mthD m .pop a as S) Q) := by
  rintro pins s σ H x xs v us Q I rx rs ⟨W, S, a, as, rfl, R, ra, rl, P⟩
  cases a with
  | loc i =>
    cases rl with
    | nil => exact P.no.elim
    | cons rb t => cases t with
      | cons _ _ => cases rb <;> exact P.no.elim
      | nil =>
        cases rb with
        | int k =>
          cases e1 : S[i]? with
          | none => simp only [mthD, e1] at P; exact P.no.elim
          | some o =>
            cases o with
            | lst l =>
              simp only [mthD, e1] at P
              obtain ⟨⟨hk1, hk2⟩, P⟩ := P.ite
              obtain ⟨j, hj, P⟩ := P.opt
              obtain ⟨c, hc, P⟩ := P.opt
              cases ra with
              | loc hi =>
                obtain ⟨ys, h1, r1⟩ := R.obj i _ e1
                obtain ⟨y, h2, r2⟩ := r1.get hc
                refine mt_popAt pins s σ W.H _ _ v us Q I rx rs ⟨W.φ i, ys, k, j, y, rfl, rfl, h1, hk1, hk2, by rw [← r1.len]; exact hj, h2, ?_⟩
                obtain ⟨r, S', e, P⟩ := P
                cases e
                exact P (W.lay (W.φ i) (.lst (ys.eraseIdx j))) _ (Le.wr R hi (R.nlk e1 rfl)) (R.wr hi (R.nlk e1 rfl) ⟨_, upd_same, (r1.mono (Le.wr R hi (R.nlk e1 rfl))).eraseIdx j⟩) (r2.mono (Le.wr R hi (R.nlk e1 rfl)))
            | _ => simp only [mthD, e1] at P; exact P.no.elim
        | _ => exact P.no.elim
  | _ => cases as <;> first | exact P.no.elim | (rename_i l; cases l <;> exact P.no.elim)
theorem isC0_base {o : Expr} {nm : Str} {env : Env} (h : isC0 o = false) : attributeBase o nm env (eval o env) = eval o env := by
  cases o <;> try rfl
  rename_i f as ks p
  cases f <;> try rfl
  cases as <;> try rfl
  cases ks <;> try rfl
  cases h
theorem few_ok {pos : Pos} {env : Env} {es : List Expr} (h : es.length < 20) (hs : (starEach es env).any (·.1) = false) : ((backTo pos (starEach es env)).all (fun x => !x.1) && (backToKw pos (keywordEach [] env)).all (fun x => x.1.isSome)
      && decide (es.length + ([] : List Keyword).length + (if ([] : List Keyword).isEmpty then 0 else 1) < 30)) = true := by
  have h1 : (backTo pos (starEach es env)).all (fun x => !x.1) = true := by
    have := backTo_any (pos := pos) hs
    rw [List.any_eq_false] at this
    rw [List.all_eq_true]
    intro x hx
    simpa using this x hx
  rw [h1]
  simp [keywordEach, backToKw]
  omega
/-- the receiver, then the arguments -/
theorem T_met {K : PySem.W.Frag} {σ : L2.St} {H : Hp} {Q : VK} {m : Bool} {p : Mth} {mr : Ev → Store → Out AV} {Tn : String} {r : V → List V → Hp → VK → Prop} (h : T K (fun ρ S => (mr ρ S).bd fun x S1 => if rcvOk p S1 x = true then (ml ρ S1).bd fun xs S2 => mthD m p x xs S2 else .no) σ H Q)
    (ht : ∀ W S a x, Rep K W S → RV K W a x → rcvOk p S a = true → tyV K Tn x W.H) (hr : ∀ x xs H Q, (∃ W S a as, W.H = H ∧ Rep K W S ∧ RV K W a x ∧ RVs K W as xs ∧ PostO K W (mthD m p a as S) Q) → r x xs H Q) :
    tBM K Tn r (T K mr) (TL K ml) σ H Q := by
  obtain ⟨W, ρ, S, s, P⟩ := h
  refine T.bd s P fun a S1 W1 x L1 s1 ra P1 => ?_
  obtain ⟨hk, P1⟩ := P1.ite
  exact ⟨ht _ _ _ _ s1.rep ra hk, TL.bd s1 P1 fun xs S2 W2 vs L2 s2 r P2 => hr _ _ _ _ ⟨W2, S2, a, xs, rfl, s2.rep, ra.mono L2, r, P2⟩⟩
theorem tyV_list {K : PySem.W.Frag} {W : Wd} {S : Store} {a : AV} {x : V} (R : Rep K W S) (ra : RV K W a x) (h : (lstOf S a).isSome = true) : tyV K "list" x W.H := by
  obtain ⟨l, e⟩ := Option.isSome_iff_exists.mp h
  obtain ⟨p, xs, rfl, h1, _⟩ := lst_it R ra e
  exact .inl ⟨rfl, xs, SqL.of h1⟩
theorem index_V {m : Bool} : MtR X "list.index" (fun x xs H Q => ∃ W S a as, W.H = H ∧ Rep X.K W S ∧ RV X.K W a x ∧ RVs X.K W as xs ∧ PostO X.K W (mthD m .index a as S) Q) := by
  rintro pins s σ H x xs v us Q I rx rs ⟨W, S, a, as, rfl, R, ra, rl, P⟩
  have key : ∀ k, as = [.int k] → PostO X.K W (intsD S a fun ns => if k ∈ ns then .ok (.int (ns.idxOf k : Nat)) S else .no) Q := by
    intro k e
    subst e
    cases a <;> exact P
  cases rl with
  | nil => cases a <;> exact P.no.elim
  | cons rb t => cases t with
    | cons _ _ =>
      exfalso
      rename_i b _ _ _ _ _ _ _
      cases a <;> cases b <;> exact P.no.elim
    | nil =>
      rename_i b y
      cases b with
      | int k =>
        cases rb
        obtain ⟨p, ns, rfl, hq, P2⟩ := ints_it R ra (key k rfl)
        obtain ⟨hk, P2⟩ := P2.ite
        have hlt : ns.idxOf k < ns.length := List.idxOf_lt_length_of_mem hk
        have hget : ns[ns.idxOf k]? = some k := by rw [List.getElem?_eq_getElem hlt, List.getElem_idxOf]
        refine mt_index pins s σ W.H _ _ v us Q I rx rs ⟨p, ns.map V.int, .int k, ns.idxOf k, .int k, rfl, rfl, hq, rfl, by simp [flatV], by rw [List.getElem?_map, hget]; rfl, by simp [eqV], fun j z hj hz => ?_, P2.val R (.int _)⟩
        rw [List.getElem?_map] at hz
        have hj2 : j < ns.length := by omega
        rw [List.getElem?_eq_getElem hj2] at hz
        cases hz
        have := List.not_of_lt_findIdx (p := (· == k)) (xs := ns) (i := j) hj
        simpa [eqV] using this
      | _ => cases a <;> exact P.no.elim
theorem count_V {m : Bool} : MtR X "list.count" (fun x xs H Q => ∃ W S a as, W.H = H ∧ Rep X.K W S ∧ RV X.K W a x ∧ RVs X.K W as xs ∧ PostO X.K W (mthD m .count a as S) Q) := by
  rintro pins s σ H x xs v us Q I rx rs ⟨W, S, a, as, rfl, R, ra, rl, P⟩
  cases rl with
  | nil => cases a <;> exact P.no.elim
  | cons rb t => cases t with
    | cons _ _ => cases a <;> cases rb <;> exact P.no.elim
    | nil =>
      cases rb with
      | int k =>
        have P1 : PostO X.K W (intsD S a fun ns => .ok (.int (ns.count k : Nat)) S) Q := by cases a <;> exact P
        obtain ⟨p, ns, rfl, hq, P2⟩ := ints_it R ra P1
        exact mt_lcount pins s σ W.H _ _ v us Q I rx rs ⟨p, ns, k, rfl, rfl, hq, P2.val R (.int _)⟩
      | _ => cases a <;> exact P.no.elim
theorem index2_V (hu : X.A.units + 65 < cLine) {m : Bool} : MtR X "list.index" (fun x xs H Q => ∃ W S a as, W.H = H ∧ Rep X.K W S ∧ RV X.K W a x ∧ RVs X.K W as xs ∧ PostO X.K W (mthD m .index2 a as S) Q) := by
  rintro pins s σ H x xs v us Q I rx rs ⟨W, S, a, as, rfl, R, ra, rl, P⟩
  cases rl with
  | nil => cases a <;> exact P.no.elim
  | cons rb t => cases t with
    | nil => cases a <;> cases rb <;> exact P.no.elim
    | cons rc t => cases t with
      | cons _ _ => cases a <;> cases rb <;> cases rc <;> exact P.no.elim
      | nil =>
        cases rb with
        | int k =>
          cases rc with
          | int i =>
            have P1 : PostO X.K W (intsD S a fun ns => if 0 ≤ i ∧ i ≤ 1000000 ∧ k ∈ ns.drop i.toNat then .ok (.int (i.toNat + (ns.drop i.toNat).idxOf k : Nat)) S else .no) Q := by cases a <;> exact P
            obtain ⟨p, ns, rfl, hq, P2⟩ := ints_it R ra P1
            obtain ⟨⟨h1, h2, h3⟩, P2⟩ := P2.ite
            obtain ⟨n, rfl⟩ := Int.eq_ofNat_of_zero_le h1
            rw [Int.toNat_natCast] at h3 P2
            exact mt_indexF hu pins s σ W.H _ _ v us Q I rx rs ⟨p, ns, k, n, rfl, rfl, hq, by omega, h3, P2.val R (.int _)⟩
          | _ => cases a <;> exact P.no.elim
        | _ => cases a <;> cases rc <;> exact P.no.elim
theorem pe_metV (hu : X.A.units + 80 < cLine) {m : Bool} {p : Mth} {nm : Str} {ap cp : Pos} {o : Expr} {mr : Ev → Store → Out AV} (hn : nm = Str.ofString (mthN p)) (hp : mthOk p = true) (hr : PE X o (T X.K mr)) (hb : isC0 o = false) (hl : (ap.endLine == cp.line) = true) (hz : es.length < 20)
    (ha : PA X es (TL X.K ml)) (ho : ∀ e r, es = e :: r → odd e = false ∧ (starEach r X.env).any (·.1) = false) (h0 : es = [] → ml = fun _ S => .ok [] S) :
    PE X (.Call (.Attribute o nm ap) es [] cp) (T X.K fun ρ S => (mr ρ S).bd fun x S1 => if rcvOk p S1 x = true then (ml ρ S1).bd fun xs S2 => mthD m p x xs S2 else .no) := by
  subst hn
  have gen : ∀ {id : String}, (p = .append ∨ p = .pop0 ∨ p = .pop ∨ p = .index ∨ p = .index2 ∨ p = .count) → Slot "list" (Str.ofString (mthN p)) id → typeOf (.builtin id) = pure (.type "method_descriptor") →
      MtR X id (fun x xs H Q => ∃ W S a as, W.H = H ∧ Rep X.K W S ∧ RV X.K W a x ∧ RVs X.K W as xs ∧ PostO X.K W (mthD m p a as S) Q) →
      PE X (.Call (.Attribute o (Str.ofString (mthN p)) ap) es [] cp) (T X.K fun ρ S => (mr ρ S).bd fun x S1 => if rcvOk p S1 x = true then (ml ρ S1).bd fun xs S2 => mthD m p x xs S2 else .no) := by
    intro id hpp hs hty hm
    have ht : ∀ W S a x, Rep X.K W S → RV X.K W a x → rcvOk p S a = true → tyV X.K "list" x W.H := fun W S a x R ra h => tyV_list R ra (by rcases hpp with rfl | rfl | rfl | rfl | rfl | rfl <;> exact h)
    cases es with
    | nil =>
      refine (pe_bm0 PySem.F.plainAttrs_list hs hty hm hr (isC0_base hb) hl).w fun σ H Q h => ?_
      obtain ⟨W, ρ, S, s, P⟩ := h
      refine T.bd s P fun a S1 W1 x L1 s1 ra P1 => ?_
      obtain ⟨hk, P1⟩ := P1.ite
      rw [h0 rfl] at P1
      exact ⟨ht _ _ _ _ s1.rep ra hk, W1, S1, a, [], rfl, s1.rep, ra, .nil, P1⟩
    | cons e r =>
      obtain ⟨h1, h2⟩ := ho e r rfl
      refine (pe_bm PySem.F.plainAttrs_list hs hty hm hr ha (isC0_base hb) ?_ hl (odd_star h1) (backTo_any h2)).w fun σ H Q h => T_met h ht fun _ _ _ _ q => q
      exact few_ok hz (by rw [odd_star h1]; show (false || _) = false; rw [h2]; rfl)
  cases p with
  | append => exact gen (.inl rfl) PySem.F.slot_list_append PySem.F.type_list_append append_V
  | pop0 => exact gen (.inr (.inl rfl)) PySem.F.slot_list_pop PySem.F.type_list_pop pop0_V
  | pop => exact gen (.inr (.inr (.inl rfl))) PySem.F.slot_list_pop PySem.F.type_list_pop pop_V
  | index => exact gen (.inr (.inr (.inr (.inl rfl)))) PySem.F.slot_list_index PySem.F.type_list_index index_V
  | index2 => exact gen (.inr (.inr (.inr (.inr (.inl rfl))))) PySem.F.slot_list_index PySem.F.type_list_index (index2_V (by omega))
  | count => exact gen (.inr (.inr (.inr (.inr (.inr rfl))))) PySem.F.slot_list_count PySem.F.type_list_count count_V
  | _ => cases hp
end
end VI

set_option maxRecDepth 100000
set_option maxHeartbeats 1000000
/-! VI7: what is walked; comprehensions. -/
namespace VI
open PySem PySem.Spec PyProof.Rows L2 RZ

/-- a walk J gives these things, while the lists of gs stand -/
def WkOk (K : PySem.W.Frag) (W0 : Wd) (its : List AV) (gs : List (Nat × List AV)) (J : It) : Prop :=
  ∃ (G : Hp → Prop) (Y : Nat → Hp → V → Hp → Prop), Walk J its.length G Y ∧ (∀ W S, Lw W0 W → Rep K W S → Gd gs S → G W.H) ∧
    ∀ W S i x H', Lw W0 W → Rep K W S → Gd gs S → Y i W.H x H' → ∃ W' a, W'.H = H' ∧ Le W W' ∧ Rep K W' S ∧ its[i]? = some a ∧ RV K W' a x
theorem WkOk.mono {K : PySem.W.Frag} {W0 W1 : Wd} {its : List AV} {gs : List (Nat × List AV)} {J : It} (L : Lw W0 W1) (h : WkOk K W0 its gs J) : WkOk K W1 its gs J := by
  obtain ⟨G, Y, w, h1, h2⟩ := h
  exact ⟨G, Y, w, fun W S L1 => h1 W S (L.trans L1), fun W S i x H' L1 => h2 W S i x H' (L.trans L1)⟩
def TIt (K : PySem.W.Frag) (m : Ev → Store → Out (List AV × List (Nat × List AV))) : TI := fun σ H R =>
  ∃ W ρ S, Stt K W ρ S σ H ∧ ∃ w S', m ρ S = .ok w S' ∧ ∀ W' J, Le W W' → Rep K W' S' → WkOk K W' w.1 w.2 J → R J W'.H
theorem _root_.L2.PI.wk {X : Cx} {tg e : Expr} {t t' : TI} (h : PI X tg e t) (f : ∀ σ H Q, t' σ H Q → t σ H Q) : PI X tg e t' := ⟨fun pins s σ H Q I q => h.run pins s σ H Q I (f _ _ _ q)⟩

def FormIOk (P : Program) (w : World) (K : PySem.W.Frag) (mg : Str → Option Value) (base : Heap) (k : Nat) (F : FormI) : Prop :=
  ∀ N X sc tg e es ms, GE P w K mg base k N X sc → F.mat sc tg e = some es → PEs X es ms → PI X tg e (TIt K (F.sem ms))
/-- the forms that are right at a level -/
def Go (P : Program) (w : World) (K : PySem.W.Frag) (mg : Str → Option Value) (base : Heap) (k : Nat) : FO := ⟨FormOk P w K mg base k, FormIOk P w K mg base k, FormSOk P w K mg base k, FormTOk P w K mg base k, FormCOk P w K mg base k⟩
section
variable {K : PySem.W.Frag} {W0 : Wd}
/-- a list that changes no more; a tuple -/
theorem wk_lst {a : Addr} {xs : List V} {l : List AV} (h : W0.H a = some (.lst xs)) (s : W0.stb a) (r : RVs K W0 l xs) : WkOk K W0 l [] (Itl K a) := by
  refine ⟨_, _, by rw [r.len]; exact walk_list (xs := xs), fun W S L R _ => SqL.of (L.stb a _ h s).1, fun W S i x H' L R _ y => ?_⟩
  obtain ⟨e, hx⟩ := y
  obtain ⟨c, h1, h2⟩ := (r.mw L).getV hx
  exact ⟨W, c, e.symm, Le.refl W, R, h1, h2⟩
theorem wk_tup {a : Addr} {xs : List V} {l : List AV} (h : ∀ W, Lw W0 W → SqT K W.H a xs) (r : RVs K W0 l xs) : WkOk K W0 l [] (Itt K a) := by
  refine ⟨_, _, by rw [r.len]; exact walk_tup (xs := xs), fun W S L R _ => h W L, fun W S i x H' L R _ y => ?_⟩
  obtain ⟨e, hx⟩ := y
  obtain ⟨c, h1, h2⟩ := (r.mw L).getV hx
  exact ⟨W, c, e.symm, Le.refl W, R, h1, h2⟩
theorem wk_scr {a : Addr} {l : List Int} (h : ∀ W, Lw W0 W → SqL K W.H a (l.map V.int)) : WkOk K W0 (l.map .int) [] (Itl K a) := by
  refine ⟨_, _, by rw [List.length_map, ← List.length_map (f := V.int)]; exact walk_list, fun W S L R _ => h W L, fun W S i x H' L R _ y => ?_⟩
  obtain ⟨e, hx⟩ := y
  obtain ⟨c, h1, h2⟩ := (RVs.ints (K := K) (W := W) l).getV hx
  exact ⟨W, c, e.symm, Le.refl W, R, h1, h2⟩
/-- a list of the store -/
theorem wk_loc {i : Nat} {l : List AV} (hi : i < W0.n) : WkOk K W0 l [(i, l)] (Itl K (W0.φ i)) := by
  refine ⟨fun H => ∃ xs, H (W0.φ i) = some (.lst xs) ∧ xs.length = l.length, fun j H x H' => H' = H ∧ ∀ xs, SqL K H (W0.φ i) xs → xs[j]? = some x, ⟨fun j H hj g => ?_, fun H g => ?_, fun j H x H' _ _ y => y⟩, fun W S L R g => ?_, fun W S j x H' L R g y => ?_⟩
  · obtain ⟨xs, h1, h2⟩ := g
    have hj' : j < xs.length := by rw [h2]; exact hj
    exact ⟨xs, xs[j], SqL.of h1, by simp [hj']⟩
  · obtain ⟨xs, h1, h2⟩ := g
    exact ⟨xs, SqL.of h1, by rw [h2]; exact Nat.le_refl _⟩
  · obtain ⟨xs, h1, h2⟩ := R.obj i _ (g (i, l) (by simp))
    rw [L.φ i hi] at h1
    exact ⟨xs, h1, h2.len.symm⟩
  · obtain ⟨xs, h1, h2⟩ := R.obj i _ (g (i, l) (by simp))
    rw [L.φ i hi] at h1
    obtain ⟨e, hx⟩ := y
    obtain ⟨c, h3, h4⟩ := h2.getV (hx xs (SqL.of h1))
    exact ⟨W, c, e.symm, Le.refl W, R, h3, h4⟩
theorem wk_str {z : Str} : WkOk K W0 (z.cps.toList.map fun c => .str ⟨#[c]⟩) [] (Its z) := by
  refine ⟨_, _, by rw [List.length_map, Array.length_toList]; exact walk_str, fun W S L R _ => trivial, fun W S i x H' L R _ y => ?_⟩
  obtain ⟨e, c, hc, hx⟩ := y
  subst hx
  exact ⟨W, .str ⟨#[c]⟩, e.symm, Le.refl W, R, by simp [hc], .str _⟩
theorem wk_rng {lo : Int} {n : Nat} : WkOk K W0 ((List.range n).map fun (k : Nat) => .int (lo + k)) [] (Itr lo n) := by
  refine ⟨fun _ => True, fun i H x H' => H' = H ∧ x = .int (lo + i) ∧ i < n, ⟨fun i H hi _ => by show i < n; simpa using hi, fun H _ => by show n ≤ _; simp, fun i H x H' hi _ y => ⟨y.1, y.2, by simpa using hi⟩⟩, fun W S L R _ => trivial, fun W S i x H' L R _ y => ?_⟩
  obtain ⟨e, hx, hi⟩ := y
  subst hx
  exact ⟨W, .int (lo + i), e.symm, Le.refl W, R, by simp [hi], .int _⟩
theorem wk_rngC {lo : Int} {n : Nat} : WkOk K W0 ((List.range n).map fun (k : Nat) => .int (lo - k)) [] (Itc lo (-1) n) := by
  refine ⟨fun _ => True, fun i H x H' => H' = H ∧ x = .int (lo + (i : Nat) * (-1)) ∧ i < n, ⟨fun i H hi _ => by show i < n; simpa using hi, fun H _ => by show n ≤ _; simp, fun i H x H' hi _ y => ⟨y.1, y.2, by simpa using hi⟩⟩, fun W S L R _ => trivial, fun W S i x H' L R _ y => ?_⟩
  obtain ⟨e, hx, hi⟩ := y
  subst hx
  have e2 : lo + (i : Nat) * (-1) = lo - i := by omega
  rw [e2]
  exact ⟨W, .int (lo - i), e.symm, Le.refl W, R, by simp [hi], .int _⟩
end

section
variable {X : Cx} {tg a b c : Expr} {pos p1 : Pos} {ma mb mc : Ev → Store → Out AV}
def itvD (ma : Ev → Store → Out AV) : Ev → Store → Out (List AV × List (Nat × List AV)) := fun ρ S => (ma ρ S).bd fun x S1 => match x with
    | .loc i => match S1[i]? with
      | some (.lst l) => .ok (l, [(i, l)]) S1
      | _ => .no
    | .str z => .ok (z.cps.toList.map fun c => .str ⟨#[c]⟩, []) S1
    | x => match itemsOf S1 x with
      | some l => .ok (l, []) S1
      | none => .no
theorem pi_itvV (ha : PE X a (T X.K ma)) : PI X tg a (TIt X.K (itvD ma)) := by
  refine ⟨fun pins s σ H R I h => ?_⟩
  obtain ⟨W, ρ, S, st, w, S', e, P⟩ := h
  obtain ⟨x, S1, e1, e2⟩ := Out.bd_eq e
  -- by what it is
  have lists : (∀ W1 v, Le W W1 → Rep X.K W1 S1 → RV X.K W1 x v → ∃ p xs, v = .ref p ∧ SqL X.K W1.H p xs ∧ R (Itl X.K p) W1.H) → wpAny (model X.prog X.w) X.A (eval a X.env) (fun v s1 => wpAny (model X.prog X.w) X.A (pyIter v) (PIE X pins σ tg R) X.xe s1) X.xe s := fun k =>
    (pi_list ha).run pins s σ H R I ⟨W, ρ, S, st, x, S1, e1, fun W1 v L1 R1 r1 => let ⟨p, xs, h1, h2, h3⟩ := k W1 v L1 R1 r1; ⟨p, h1, ⟨xs, h2⟩, h3⟩⟩
  have tups : (∀ W1 v, Le W W1 → Rep X.K W1 S1 → RV X.K W1 x v → ∃ p xs, v = .ref p ∧ SqT X.K W1.H p xs ∧ R (Itt X.K p) W1.H) → wpAny (model X.prog X.w) X.A (eval a X.env) (fun v s1 => wpAny (model X.prog X.w) X.A (pyIter v) (PIE X pins σ tg R) X.xe s1) X.xe s := fun k =>
    (pi_tup ha).run pins s σ H R I ⟨W, ρ, S, st, x, S1, e1, fun W1 v L1 R1 r1 => let ⟨p, xs, h1, h2, h3⟩ := k W1 v L1 R1 r1; ⟨p, h1, ⟨xs, h2⟩, h3⟩⟩
  cases x with
  | loc i =>
    dsimp only at e2
    cases e3 : S1[i]? with
    | none => simp [e3] at e2
    | some o =>
      cases o with
      | lst l =>
        simp only [e3] at e2
        cases e2
        refine lists fun W1 v L1 R1 r1 => ?_
        cases r1 with
        | loc hi =>
          obtain ⟨xs, h1, h2⟩ := R1.obj i _ e3
          exact ⟨_, xs, rfl, SqL.of h1, P W1 _ L1 R1 (wk_loc hi)⟩
      | _ => simp [e3] at e2
  | str z =>
    cases e2
    exact (pi_str ha).run pins s σ H R I ⟨W, ρ, S, st, _, _, e1, fun W1 v L1 R1 r1 => by cases r1; exact ⟨z, rfl, P W1 _ L1 R1 wk_str⟩⟩
  | tup l =>
    cases e2
    refine tups fun W1 v L1 R1 r1 => ?_
    cases r1 with
    | tup h1 h2 r => exact ⟨_, _, rfl, SqT.of h1, P W1 _ L1 R1 (wk_tup (fun W2 L2 => SqT.of (L2.stb _ _ h1 h2).1) r)⟩
  | ktp l =>
    cases e2
    refine tups fun W1 v L1 R1 r1 => ?_
    cases r1 with
    | ktup h1 r => exact ⟨_, _, rfl, h1 _, P W1 _ L1 R1 (wk_tup (fun W2 L2 => h1 _) r)⟩
  | ftp l =>
    cases e2
    refine tups fun W1 v L1 R1 r1 => ?_
    cases r1 with
    | ftup h1 _ h2 r => exact ⟨_, _, rfl, .inl (.inr ⟨_, h1⟩), P W1 _ L1 R1 (wk_tup (fun W2 L2 => .inl (.inr ⟨_, (L2.stb _ _ h1 h2).1⟩)) r)⟩
  | lst l =>
    cases e2
    refine lists fun W1 v L1 R1 r1 => ?_
    cases r1 with
    | lst h1 h2 r => exact ⟨_, _, rfl, SqL.of h1, P W1 _ L1 R1 (wk_lst h1 h2 r)⟩
  | scr l =>
    cases e2
    refine lists fun W1 v L1 R1 r1 => ?_
    cases r1 with
    | scr h1 h2 => exact ⟨_, _, rfl, .inl (.inr ⟨_, h1⟩), P W1 _ L1 R1 (wk_scr fun W2 L2 => .inl (.inr ⟨_, (L2.stb _ _ h1 h2).1⟩))⟩
    | scl h1 h2 => exact ⟨_, _, rfl, .inl (.inl h1), P W1 _ L1 R1 (wk_scr fun W2 L2 => .inl (.inl (L2.stb _ _ h1 h2).1))⟩
    | kscr h1 => exact ⟨_, _, rfl, h1 _, P W1 _ L1 R1 (wk_scr fun W2 L2 => h1 _)⟩
  | _ => cases e2
theorem pi_it1V {r : Str} (hr : r = Str.ofString "range") (g : Gl X r) (hm : X.mg (Str.ofString "range") = none) (ha : PE X a (T X.K ma)) (ho : odd a = false) : PI X tg (.Call (.Name r p1) [a] [] pos) (TIt X.K fun ρ S => (ma ρ S).bd fun x S1 => match x with
    | .int j => if j ≤ 2 ^ 60 ∧ -(2 ^ 60) ≤ j then .ok ((List.range j.toNat).map fun (k : Nat) => .int k, []) S1 else .no
    | _ => .no) := by
  subst hr
  refine (pi_range1 g hm (pa_consV ha pa_nilV ho) (by rw [odd_star ho]; rfl)).wk fun σ H R h => ?_
  obtain ⟨W, ρ, S, st, w, S', e, P⟩ := h
  obtain ⟨x, S1, k1, e2⟩ := Out.bd_eq e
  cases x with
  | int j =>
    dsimp only at e2
    split at e2
    · rename_i hz
      cases e2
      refine ⟨W, ρ, S, st, [.int j], _, by simp [k1]; rfl, fun W1 xs L1 R1 rs => ?_⟩
      cases rs with
      | cons r1 t =>
        cases t
        cases r1
        refine ⟨j, rfl, by omega, by omega, P W1 _ L1 R1 ?_⟩
        have := wk_rng (K := X.K) (W0 := W1) (lo := 0) (n := j.toNat)
        simpa using this
    · cases e2
  | _ => cases e2
theorem pi_it2V {r : Str} (hr : r = Str.ofString "range") (g : Gl X r) (hm : X.mg (Str.ofString "range") = none) (ha : PE X a (T X.K ma)) (ho : odd a = false) (hb : PE X b (T X.K mb)) (ho2 : odd b = false) : PI X tg (.Call (.Name r p1) [a, b] [] pos) (TIt X.K fun ρ S => (ma ρ S).bd fun x S1 => (mb ρ S1).bd fun y S2 => match x, y with
    | .int i, .int j => if j ≤ 2 ^ 60 ∧ -(2 ^ 60) ≤ j ∧ i ≤ 2 ^ 60 ∧ -(2 ^ 60) ≤ i then .ok ((List.range (j - i).toNat).map fun (k : Nat) => .int (i + k), []) S2 else .no
    | _, _ => .no) := by
  subst hr
  refine (pi_range2 g hm (pa_consV ha (pa_consV hb pa_nilV ho2) ho) (by rw [odd_star ho, odd_star ho2]; rfl) (by rw [odd_star ho2]; rfl)).wk fun σ H R h => ?_
  obtain ⟨W, ρ, S, st, w, S', e, P⟩ := h
  obtain ⟨x, S1, k1, e2⟩ := Out.bd_eq e
  obtain ⟨y, S2, k2, e3⟩ := Out.bd_eq e2
  cases x with
  | int i =>
    cases y with
    | int j =>
      dsimp only at e3
      split at e3
      · rename_i hz
        cases e3
        refine ⟨W, ρ, S, st, [.int i, .int j], _, by simp [k1, k2]; rfl, fun W1 xs L1 R1 rs => ?_⟩
        cases rs with
        | cons r1 t =>
          cases t with
          | cons r2 t =>
            cases t
            cases r1
            cases r2
            exact ⟨i, j, rfl, ⟨by omega, by omega, by omega, by omega⟩, P W1 _ L1 R1 wk_rng⟩
      · cases e3
    | _ => cases e3
  | _ => cases e3
theorem pi_it3V {r : Str} (hr : r = Str.ofString "range") (g : Gl X r) (hm : X.mg (Str.ofString "range") = none) (ha : PE X a (T X.K ma)) (ho : odd a = false) (hb : PE X b (T X.K mb)) (ho2 : odd b = false) (hc : PE X c (T X.K mc)) (ho3 : odd c = false) :
    PI X tg (.Call (.Name r p1) [a, b, c] [] pos) (TIt X.K fun ρ S => (ma ρ S).bd fun x S1 => (mb ρ S1).bd fun y S2 => (mc ρ S2).bd fun z S3 => match x, y, z with
    | .int i, .int j, .int (-1) => if j ≤ 2 ^ 60 ∧ -(2 ^ 60) ≤ j ∧ i ≤ 2 ^ 60 ∧ -(2 ^ 60) ≤ i then .ok ((List.range (i - j).toNat).map fun (k : Nat) => .int (i - k), []) S3 else .no
    | _, _, _ => .no) := by
  subst hr
  refine (pi_range3 g hm (pa_consV ha (pa_consV hb (pa_consV hc pa_nilV ho3) ho2) ho) (odd_star ho) (backTo_any (by rw [odd_star ho2, odd_star ho3]; rfl))).wk fun σ H R h => ?_
  obtain ⟨W, ρ, S, st, w, S', e, P⟩ := h
  obtain ⟨x, S1, k1, e2⟩ := Out.bd_eq e
  obtain ⟨y, S2, k2, e3⟩ := Out.bd_eq e2
  obtain ⟨z, S3, k3, e4⟩ := Out.bd_eq e3
  have : ∃ i j, x = .int i ∧ y = .int j ∧ z = .int (-1) ∧ (j ≤ 2 ^ 60 ∧ -(2 ^ 60) ≤ j ∧ i ≤ 2 ^ 60 ∧ -(2 ^ 60) ≤ i) ∧ w = ((List.range (i - j).toNat).map fun (k : Nat) => .int (i - k), []) ∧ S3 = S' := by
    split at e4
    · split at e4
      · rename_i hz
        cases e4
        exact ⟨_, _, rfl, rfl, rfl, hz, rfl, rfl⟩
      · cases e4
    · cases e4
  obtain ⟨i, j, rfl, rfl, rfl, hz, rfl, rfl⟩ := this
  refine ⟨W, ρ, S, st, [.int i, .int j, .int (-1)], S3, by simp [k1, k2, k3], fun W1 xs L1 R1 rs => ?_⟩
  cases rs with
  | cons r1 t =>
    cases t with
    | cons r2 t =>
      cases t with
      | cons r3 t =>
        cases t
        cases r1
        cases r2
        cases r3
        exact ⟨i, j, -1, _, rfl, RgC.neg (by omega) (by omega) (by omega) (by omega), P W1 _ L1 R1 wk_rngC⟩
end
section
variable {K : PySem.W.Frag} {W0 : Wd}
/-- a list's place, what it holds while gs stand -/
def Kl (K : PySem.W.Frag) (W0 : Wd) (a : Addr) (l : List AV) (gs : List (Nat × List AV)) : Prop := ∀ W S, Lw W0 W → Rep K W S → Gd gs S → ∃ xs, SqL K W.H a xs ∧ RVs K W l xs
theorem Kl.of {S : Store} {x : AV} {v : V} {l : List AV} (R : Rep K W0 S) (r : RV K W0 x v) (e : lstOf S x = some l) : ∃ a, v = .ref a ∧ Kl K W0 a l (gdOf x l) ∧ ∃ xs, SqL K W0.H a xs := by
  cases x with
  | lst m =>
    cases e
    cases r with
    | lst h s r => exact ⟨_, rfl, fun W S L R _ => ⟨_, SqL.of (L.stb _ _ h s).1, r.mw L⟩, _, SqL.of h⟩
  | loc i =>
    simp only [lstOf] at e
    cases e1 : S[i]? with
    | none => simp [e1] at e
    | some o =>
      cases o with
      | lst m =>
        simp only [e1] at e
        cases e
        cases r with
        | loc hi =>
          refine ⟨_, rfl, fun W S' L R' g => ?_, ?_⟩
          · obtain ⟨xs, h1, h2⟩ := R'.obj i _ (g (i, l) (by simp [gdOf]))
            rw [L.φ i hi] at h1
            exact ⟨xs, SqL.of h1, h2⟩
          · obtain ⟨xs, h1, h2⟩ := R.obj i _ e1
            exact ⟨xs, SqL.of h1⟩
      | _ => simp [e1] at e
  | _ => cases e
theorem Gd.left {g h : List (Nat × List AV)} {S : Store} (k : Gd (g ++ h) S) : Gd g S := fun p hp => k p (List.mem_append_left _ hp)
theorem Gd.right {g h : List (Nat × List AV)} {S : Store} (k : Gd (g ++ h) S) : Gd h S := fun p hp => k p (List.mem_append_right _ hp)
/-- a new pair is told -/
theorem pair_told {W : Wd} {S : Store} {T : Addr} {x y : V} {a b : AV} {H' : Hp} (R : Rep K W S) (hT : W.H T = none) (e : H' = upd W.H T (.tup [x, y])) (ra : RV K W a x) (rb : RV K W b y) :
    ∃ W', W'.H = H' ∧ Le W W' ∧ Rep K W' S ∧ RV K W' (.tup [a, b]) (.ref T) :=
  ⟨W.lay T (.tup [x, y]), e.symm, Le.lay hT, R.lay hT, .tup upd_same (R.layStb hT) (.cons (ra.mono (Le.lay hT)) (.cons (rb.mono (Le.lay hT)) .nil))⟩
theorem wk_zip {a b : Addr} {l k : List AV} {g h : List (Nat × List AV)} (ha : Kl K W0 a l g) (hb : Kl K W0 b k h) : WkOk K W0 ((l.zip k).map fun p => .tup [p.1, p.2]) (g ++ h) (Itz K a b) := by
  refine ⟨fun H => ∃ xs ys, SqL K H a xs ∧ SqL K H b ys ∧ l.length = xs.length ∧ k.length = ys.length, (Itz K a b).yld, ⟨fun i H hi G => ?_, fun H G => ?_, fun _ _ _ _ _ _ y => y⟩, fun W S L R q => ?_, fun W S i x H' L R q y => ?_⟩
  · obtain ⟨xs, ys, h1, h2, h3, h4⟩ := G
    have hi' : i < min l.length k.length := by simpa using hi
    have hx : i < xs.length := by omega
    have hy : i < ys.length := by omega
    exact ⟨xs, ys, xs[i], ys[i], h1, h2, by simp [hx], by simp [hy]⟩
  · obtain ⟨xs, ys, h1, h2, h3, h4⟩ := G
    exact ⟨xs, ys, h1, h2, by simp; omega⟩
  · obtain ⟨xs, h1, h2⟩ := ha W S L R q.left
    obtain ⟨ys, h3, h4⟩ := hb W S L R q.right
    exact ⟨xs, ys, h1, h3, h2.len, h4.len⟩
  · obtain ⟨xs, h1, h2⟩ := ha W S L R q.left
    obtain ⟨ys, h3, h4⟩ := hb W S L R q.right
    obtain ⟨T, x', y', rfl, hT, eH, k1, k2⟩ := y
    obtain ⟨c, e1, r1⟩ := h2.getV (k1 xs h1)
    obtain ⟨d, e2, r2⟩ := h4.getV (k2 ys h3)
    obtain ⟨W', q1, q2, q3, q4⟩ := pair_told R hT eH r1 r2
    exact ⟨W', .tup [c, d], q1, q2, q3, by rw [List.getElem?_map, (List.getElem?_zip_eq_some (z := (c, d))).mpr ⟨e1, e2⟩]; rfl, q4⟩
theorem wk_zipT {a b : Addr} {l k : List AV} {xs ys : List V} (ha : ∀ W, Lw W0 W → SqT K W.H a xs) (hb : ∀ W, Lw W0 W → SqT K W.H b ys) (ra : RVs K W0 l xs) (rb : RVs K W0 k ys) : WkOk K W0 ((l.zip k).map fun p => .tup [p.1, p.2]) [] (ItzT K a b) := by
  refine ⟨fun H => SqT K H a xs ∧ SqT K H b ys, (ItzT K a b).yld, ⟨fun i H hi G => ?_, fun H G => ?_, fun _ _ _ _ _ _ y => y⟩, fun W S L R q => ⟨ha W L, hb W L⟩, fun W S i x H' L R q y => ?_⟩
  · have h1 := ra.len
    have h2 := rb.len
    have hi' : i < min l.length k.length := by simpa using hi
    have hx : i < xs.length := by omega
    have hy : i < ys.length := by omega
    exact ⟨xs, ys, xs[i], ys[i], G.1, G.2, by simp [hx], by simp [hy]⟩
  · have h1 := ra.len
    have h2 := rb.len
    exact ⟨xs, ys, G.1, G.2, by simp; omega⟩
  · obtain ⟨T, x', y', rfl, hT, eH, k1, k2⟩ := y
    obtain ⟨c, e1, r1⟩ := (ra.mw L).getV (k1 xs (ha W L))
    obtain ⟨d, e2, r2⟩ := (rb.mw L).getV (k2 ys (hb W L))
    obtain ⟨W', q1, q2, q3, q4⟩ := pair_told R hT eH r1 r2
    exact ⟨W', .tup [c, d], q1, q2, q3, by rw [List.getElem?_map, (List.getElem?_zip_eq_some (z := (c, d))).mpr ⟨e1, e2⟩]; rfl, q4⟩
theorem wk_enum {a : Addr} {l : List AV} {g : List (Nat × List AV)} (ha : Kl K W0 a l g) : WkOk K W0 (l.mapIdx fun k x => .tup [.int k, x]) g (Ite K a) := by
  refine ⟨fun H => ∃ xs, SqL K H a xs ∧ l.length = xs.length, (Ite K a).yld, ⟨fun i H hi G => ?_, fun H G => ?_, fun _ _ _ _ _ _ y => y⟩, fun W S L R q => ?_, fun W S i x H' L R q y => ?_⟩
  · obtain ⟨xs, h1, h3⟩ := G
    have hx : i < xs.length := by rw [← h3]; simpa using hi
    exact ⟨xs, xs[i], h1, by simp [hx]⟩
  · obtain ⟨xs, h1, h3⟩ := G
    exact ⟨xs, h1, by simp; omega⟩
  · obtain ⟨xs, h1, h2⟩ := ha W S L R q
    exact ⟨xs, h1, h2.len⟩
  · obtain ⟨xs, h1, h2⟩ := ha W S L R q
    obtain ⟨T, x', rfl, hT, eH, k1⟩ := y
    obtain ⟨c, e1, r1⟩ := h2.getV (k1 xs h1)
    obtain ⟨W', q1, q2, q3, q4⟩ := pair_told R hT eH (.int (i : Nat)) r1
    exact ⟨W', .tup [.int (i : Nat), c], q1, q2, q3, by simp [e1], q4⟩
theorem wk_enumT {a : Addr} {l : List AV} {xs : List V} (ha : ∀ W, Lw W0 W → SqT K W.H a xs) (ra : RVs K W0 l xs) : WkOk K W0 (l.mapIdx fun k x => .tup [.int k, x]) [] (IteT K a xs) := by
  refine ⟨fun H => SqT K H a xs, (IteT K a xs).yld, ⟨fun i H hi G => ?_, fun H G => ?_, fun _ _ _ _ _ _ y => y⟩, fun W S L R q => ha W L, fun W S i x H' L R q y => ?_⟩
  · have h1 := ra.len
    have hi' : i < l.length := by simpa using hi
    exact ⟨G, by omega⟩
  · have h1 := ra.len
    exact ⟨G, by simp; omega⟩
  · obtain ⟨T, x', rfl, hT, eH, k1⟩ := y
    obtain ⟨c, e1, r1⟩ := (ra.mw L).getV k1
    obtain ⟨W', q1, q2, q3, q4⟩ := pair_told R hT eH (.int (i : Nat)) r1
    exact ⟨W', .tup [.int (i : Nat), c], q1, q2, q3, by simp [e1], q4⟩
end
section
variable {X : Cx} {tg a b c : Expr} {pos p1 : Pos} {ma mb mc : Ev → Store → Out AV}
theorem zipD_cases {α : Type} {x y : AV} {S S' : Store} {f : List AV → List AV → List (Nat × List AV) → Out α} {w : α} (h : zipD x y S f = .ok w S') :
    (∃ l k, x = .tup l ∧ y = .tup k ∧ f l k [] = .ok w S') ∨ ∃ l k, lstOf S x = some l ∧ lstOf S y = some k ∧ f l k (gdOf x l ++ gdOf y k) = .ok w S' := by
  have gen : optD (lstOf S x) (fun l => optD (lstOf S y) fun k => f l k (gdOf x l ++ gdOf y k)) = .ok w S' → ∃ l k, lstOf S x = some l ∧ lstOf S y = some k ∧ f l k (gdOf x l ++ gdOf y k) = .ok w S' := fun h => by
    cases e : lstOf S x with
    | none => rw [e] at h; cases h
    | some l =>
      cases e2 : lstOf S y with
      | none => rw [e, e2] at h; cases h
      | some k => rw [e, e2] at h; exact ⟨l, k, rfl, rfl, h⟩
  cases x with
  | tup l =>
    cases y with
    | tup k => exact .inl ⟨l, k, rfl, rfl, h⟩
    | _ => exact .inr (gen h)
  | _ => exact .inr (gen h)
theorem pi_izpV {r : Str} {elts : List Expr} {kk : Nat} {tpos : Pos} (hr : r = Str.ofString "zip") (g : Gl X r) (hm : X.mg (Str.ofString "zip") = none) (ha : PE X a (T X.K ma)) (ho : odd a = false) (hb : PE X b (T X.K mb)) (ho2 : odd b = false) :
    PI X (.Tuple elts kk tpos) (.Call (.Name r p1) [a, b] [] pos) (TIt X.K fun ρ S => (ma ρ S).bd fun x S1 => (mb ρ S1).bd fun y S2 => zipD x y S2 fun l k gs => .ok ((l.zip k).map fun p => .tup [p.1, p.2], gs) S2) := by
  subst hr
  refine (pi_zipA g hm (pa_consV ha (pa_consV hb pa_nilV ho2) ho) (odd_star ho) (backTo_any (by rw [odd_star ho2]; rfl))).wk fun σ H R h => ?_
  obtain ⟨W, ρ, S, st, w, S', e, P⟩ := h
  obtain ⟨x, S1, k1, e2⟩ := Out.bd_eq e
  obtain ⟨y, S2, k2, e3⟩ := Out.bd_eq e2
  have hS : S2 = S' := by
    rcases zipD_cases e3 with ⟨l, k, _, _, q⟩ | ⟨l, k, _, _, q⟩ <;> (cases q; rfl)
  subst hS
  refine ⟨W, ρ, S, st, [x, y], S2, by simp [k1, k2], fun W1 xs L1 R1 rs => ?_⟩
  cases rs with
  | cons r1 t =>
    cases t with
    | cons r2 t =>
      cases t
      rcases zipD_cases e3 with ⟨l, k, rfl, rfl, q⟩ | ⟨l, k, h1, h2, q⟩
      · cases q
        cases r1 with
        | tup h1 s1 t1 =>
          cases r2 with
          | tup h2 s2 t2 => exact ⟨_, _, _, _, rfl, .inr ⟨SqT.of h1, SqT.of h2, P W1 _ L1 R1 (wk_zipT (fun W2 L2 => SqT.of (L2.stb _ _ h1 s1).1) (fun W2 L2 => SqT.of (L2.stb _ _ h2 s2).1) t1 t2)⟩⟩
      · cases q
        obtain ⟨p, rfl, q1, xs, q2⟩ := Kl.of R1 r1 h1
        obtain ⟨p', rfl, q3, ys, q4⟩ := Kl.of R1 r2 h2
        exact ⟨p, p', xs, ys, rfl, .inl ⟨q2, q4, P W1 _ L1 R1 (wk_zip q1 q3)⟩⟩
theorem pi_ienV {r : Str} {elts : List Expr} {kk : Nat} {tpos : Pos} (hr : r = Str.ofString "enumerate") (g : Gl X r) (hm : X.mg (Str.ofString "enumerate") = none) (ha : PE X a (T X.K ma)) (ho : odd a = false) :
    PI X (.Tuple elts kk tpos) (.Call (.Name r p1) [a] [] pos) (TIt X.K fun ρ S => (ma ρ S).bd fun x S1 => enD x S1) := by
  subst hr
  refine (pi_enum2 g hm (pa_consV ha pa_nilV ho) (by rw [odd_star ho]; rfl)).wk fun σ H R h => ?_
  obtain ⟨W, ρ, S, st, w, S', e, P⟩ := h
  obtain ⟨x, S1, k1, e2⟩ := Out.bd_eq e
  have sp : (∃ l, (x = .tup l ∨ x = .ftp l) ∧ w = (l.mapIdx fun k x => .tup [.int k, x], []) ∧ S' = S1) ∨ ∃ l, lstOf S1 x = some l ∧ w = (l.mapIdx fun k x => .tup [.int k, x], gdOf x l) ∧ S' = S1 := by
    have gen : optD (lstOf S1 x) (fun l => .ok (l.mapIdx fun k x => AV.tup [.int k, x], gdOf x l) S1) = .ok w S' → ∃ l, lstOf S1 x = some l ∧ w = (l.mapIdx fun k x => .tup [.int k, x], gdOf x l) ∧ S' = S1 := fun h => by
      cases e3 : lstOf S1 x with
      | none => rw [e3] at h; cases h
      | some l => rw [e3] at h; cases h; exact ⟨l, rfl, rfl, rfl⟩
    cases x with
    | tup l => cases e2; exact .inl ⟨l, .inl rfl, rfl, rfl⟩
    | ftp l => cases e2; exact .inl ⟨l, .inr rfl, rfl, rfl⟩
    | _ => exact .inr (gen e2)
  refine ⟨W, ρ, S, st, [x], _, by simp [k1]; rfl, fun W1 xs L1 R1 rs => ?_⟩
  cases rs with
  | cons r1 t =>
    cases t
    rcases sp with ⟨l, rfl | rfl, rfl, rfl⟩ | ⟨l, e3, rfl, rfl⟩
    rotate_left
    · cases r1 with
      | ftup h1 _ s1 t1 => exact .inr ⟨_, _, rfl, .inl (.inr ⟨_, h1⟩), P W1 _ L1 R1 (wk_enumT (fun W2 L2 => .inl (.inr ⟨_, (L2.stb _ _ h1 s1).1⟩)) t1)⟩
    rotate_left
    · cases r1 with
      | tup h1 s1 t1 => exact .inr ⟨_, _, rfl, SqT.of h1, P W1 _ L1 R1 (wk_enumT (fun W2 L2 => SqT.of (L2.stb _ _ h1 s1).1) t1)⟩
    · obtain ⟨p, rfl, q1, ys, q2⟩ := Kl.of R1 r1 e3
      exact .inl ⟨p, ys, rfl, q2, P W1 _ L1 R1 (wk_enum q1)⟩
/-! targets -/
mutual
def gOf (K : PySem.W.Frag) : Tg → TG
  | .n i => gName i
  | .tup t => gTup K t.len (gsOf K t)
  | _ => fun _ _ _ _ => False
def gsOf (K : PySem.W.Frag) : Tg → TGs
  | .nil => gNil
  | .cons t r => gCons (gOf K t) (gsOf K r)
  | _ => fun _ _ _ _ => False
end
/-- two rows of slots, alike but at vs -/
def SlEq (vs : List Nat) (σ σ' : L2.St) : Prop := ∀ j, j ∉ vs → σ'[j]? = σ[j]?
mutual
theorem gOf_ok {K : PySem.W.Frag} {W : Wd} : ∀ (t : Tg) {a : AV} {v : V} {ρ ρ' : Ev} {σ : L2.St} {Q : L2.St → Hp → Prop}, tgD t a ρ = some ρ' → RV K W a v → ER K W ρ σ → (∀ σ', ER K W ρ' σ' → SlEq t.slots σ σ' → Q σ' W.H) → gOf K t v σ W.H Q
  | .n i, a, v, ρ, ρ', σ, Q, e, r, er, k => by
    cases e
    exact k _ (er.set i r) fun j hj => List.getElem?_set_ne (by simpa [Tg.slots, eq_comm] using hj)
  | .tup t, a, v, ρ, ρ', σ, Q, e, r, er, k => by
    cases a with
    | tup l =>
      obtain ⟨p, xs, rfl, h, rl⟩ := r.itT
      refine ⟨p, xs, rfl, h, ?_, gsOf_ok t e rl er k⟩
      rw [← rl.len]
      exact tgs_len t e
    | _ => cases e
  | .nil, _, _, _, _, _, _, e, _, _, _ => by cases e
  | .cons _ _, _, _, _, _, _, _, e, _, _, _ => by cases e
theorem gsOf_ok {K : PySem.W.Frag} {W : Wd} : ∀ (t : Tg) {l : List AV} {vs : List V} {ρ ρ' : Ev} {σ : L2.St} {Q : L2.St → Hp → Prop}, tgsD t l ρ = some ρ' → RVs K W l vs → ER K W ρ σ → (∀ σ', ER K W ρ' σ' → SlEq t.slots σ σ' → Q σ' W.H) → gsOf K t vs σ W.H Q
  | .nil, l, vs, ρ, ρ', σ, Q, e, r, er, k => by
    cases r with
    | nil => cases e; exact ⟨rfl, k _ er fun j _ => rfl⟩
    | cons _ _ => cases e
  | .cons t u, l, vs, ρ, ρ', σ, Q, e, r, er, k => by
    cases r with
    | nil => cases e
    | cons p q =>
      rename_i a x l xs
      have e : (match tgD t a ρ with
        | some ρ1 => tgsD u l ρ1
        | none => none) = some ρ' := e
      cases e1 : tgD t a ρ with
      | none => rw [e1] at e; cases e
      | some ρ1 =>
        rw [e1] at e
        exact ⟨x, xs, rfl, gOf_ok t e1 p er fun σ1 er1 s1 => gsOf_ok u e q er1 fun σ2 er2 s2 => k σ2 er2 fun j hj => by
          simp only [Tg.slots, List.mem_append, not_or] at hj
          rw [s2 j hj.2, s1 j hj.1]⟩
  | .n _, _, _, _, _, _, _, e, _, _, _ => by cases e
  | .tup _, _, _, _, _, _, _, e, _, _, _ => by cases e
theorem tgs_len : ∀ (t : Tg) {l : List AV} {ρ ρ' : Ev}, tgsD t l ρ = some ρ' → l.length = t.len
  | .nil, l, ρ, ρ', e => by
    cases l with
    | nil => rfl
    | cons _ _ => cases e
  | .cons t u, l, ρ, ρ', e => by
    cases l with
    | nil => cases e
    | cons a l =>
      have e : (match tgD t a ρ with
        | some ρ1 => tgsD u l ρ1
        | none => none) = some ρ' := e
      cases e1 : tgD t a ρ with
      | none => rw [e1] at e; cases e
      | some ρ1 =>
        rw [e1] at e
        show l.length + 1 = u.len + 1
        rw [tgs_len u e]
  | .n _, _, _, _, e => by cases e
  | .tup _, _, _, _, e => by cases e
end
theorem assignEach_cons {e : Expr} {es : List Expr} {env : Env} (h : odd e = false) : assignEach (e :: es) env = (false, assign e env) :: assignEach es env := by
  cases e <;> first | rfl | cases h
mutual
theorem pg_V (hc : X.calm = true) (hN : X.N.Nodup) {sc : Scope} (hsc : X.env.scope = sc) {B : Str → Bool} (hB : X.fn = B) : ∀ (t : Tg) (e : Expr), ceT X.N sc B t e = true → PG X e (gOf X.K t)
  | .n i, e, h => by
    cases e with
    | Name x p =>
      simp only [ceT, Bool.and_eq_true, decide_eq_true_eq] at h
      have hl := h.2
      subst hsc hB
      unfold locB at hl
      split at hl
      · rename_i e; exact pg_name hN h.1 (.inl e) (.inr e)
      · rename_i e; exact pg_name hN h.1 (.inr e) (.inl hl)
      · cases hl
    | _ => cases h
  | .tup t, e, h => by
    cases e with
    | Tuple es k p =>
      obtain ⟨h1, h2, h3⟩ := pgs_V hc hN hsc hB t es h
      exact pg_tup hc h1 h2 h3
    | _ => cases h
  | .nil, e, h => by cases e <;> cases h
  | .cons _ _, e, h => by cases e <;> cases h
theorem pgs_V (hc : X.calm = true) (hN : X.N.Nodup) {sc : Scope} (hsc : X.env.scope = sc) {B : Str → Bool} (hB : X.fn = B) : ∀ (t : Tg) (es : List Expr), ceTs X.N sc B t es = true → PGs X es (gsOf X.K t) ∧ (assignEach es X.env).length = t.len ∧ (assignEach es X.env).findIdx? (·.1) = none
  | .nil, es, h => by
    cases es with
    | nil => exact ⟨pgs_nil, rfl, rfl⟩
    | cons _ _ => cases h
  | .cons t r, es, h => by
    cases es with
    | nil => cases h
    | cons e es =>
      simp only [ceTs, Bool.and_eq_true] at h
      have ho : odd e = false := by
        cases t with
        | n i => cases e <;> first | rfl | (have := h.1; cases this)
        | tup u => cases e <;> first | rfl | (have := h.1; cases this)
        | nil => cases e <;> (have := h.1; cases this)
        | cons _ _ => cases e <;> (have := h.1; cases this)
      obtain ⟨h1, h2, h3⟩ := pgs_V hc hN hsc hB r es h.2
      refine ⟨pgs_cons (pg_V hc hN hsc hB t e h.1) h1 (by rw [assignEach_cons ho]; rfl), ?_, ?_⟩
      · rw [assignEach_cons ho, List.length_cons, h2]; rfl
      · rw [assignEach_cons ho, List.findIdx?_cons, h3]; rfl
  | .n _, es, h => by cases es <;> cases h
  | .tup _, es, h => by cases es <;> cases h
end
end
end VI

set_option maxRecDepth 100000
set_option maxHeartbeats 1000000
/-! VI8: comprehensions; the whole of an expression. -/
namespace VI
open PySem PySem.Spec PyProof.Rows L2 RZ

section
variable {K : PySem.W.Frag} {W : Wd} {S : Store} {D : Addr}
/-- a list that is just being filled, out of sight -/
def Wd.hide (W : Wd) (D : Addr) : Wd := { W with hid := fun a => W.hid a ∨ a = D, H := upd W.H D (.lst []) }
theorem Lw.hide (R : Rep K W S) (h : W.H D = none) : Lw W (W.hide D) :=
  ⟨Nat.le_refl _, fun _ _ => rfl, fun a u e s => ⟨by show upd W.H D _ a = _; rw [upd_ne (ne_of_none e h)]; exact e, fun q => q.elim s.1 (ne_of_none e h), s.2⟩, rfl, fun a u _ e => by show upd W.H D _ a = _; rw [upd_ne (ne_of_none e h)]; exact e⟩
theorem Rep.hide (R : Rep K W S) (h : W.H D = none) : Rep K (W.hide D) S := by
  have fr := R.free h
  refine ⟨R.len, R.inj, fun a q => ?_, fun i u e => ?_, R.lk⟩
  · by_cases ha : a = D
    · subst ha
      exact ⟨⟨_, upd_same⟩, fr.2⟩
    · rcases q with q | q
      · obtain ⟨⟨u, e⟩, h2⟩ := R.hid a q
        exact ⟨⟨u, by show upd W.H D _ a = _; rw [upd_ne ha]; exact e⟩, h2⟩
      · exact absurd q ha
  · have r := R.obj i u e
    obtain ⟨v, ev⟩ := r.some
    show RO K (W.hide D) (W.φ i) u
    exact r.mw (Lw.hide R h) (by show upd W.H D _ (W.φ i) = _; rw [upd_ne (ne_of_none ev h)])
/-- its content changed -/
def Wd.fill (W : Wd) (D : Addr) (xs : List V) : Wd := { W with H := upd W.H D (.lst xs) }
theorem Lw.fill {xs : List V} (h : W.hid D) (hn : ¬ W.lkd D) : Lw W (W.fill D xs) :=
  ⟨Nat.le_refl _, fun _ _ => rfl, fun a u e s => ⟨by show upd W.H D _ a = _; rw [upd_ne (fun z => s.1 (by rw [z]; exact h))]; exact e, s⟩, rfl, fun a u q e => by show upd W.H D _ a = _; rw [upd_ne (fun z => hn (by rw [← z]; exact q))]; exact e⟩
theorem Rep.fill (R : Rep K W S) {xs : List V} (h : W.hid D) : Rep K (W.fill D xs) S := by
  refine ⟨R.len, R.inj, fun a q => ⟨?_, (R.hid a q).2⟩, fun i u e => ?_, R.lk⟩
  · by_cases ha : a = D
    · subst ha; exact ⟨_, upd_same⟩
    · obtain ⟨⟨u, e⟩, _⟩ := R.hid a q
      exact ⟨u, by show upd W.H D _ a = _; rw [upd_ne ha]; exact e⟩
  · have hi : i < W.n := by rw [← R.len]; exact (List.getElem?_eq_some_iff.mp e).1
    show RO K (W.fill D xs) (W.φ i) u
    exact (R.obj i u e).mw (Lw.fill h (R.hlk h)) (by show upd W.H D _ (W.φ i) = _; rw [upd_ne ((R.hid D h).2 i hi)])
/-- it comes to sight -/
def Wd.show_ (W : Wd) (hid : Addr → Prop) : Wd := { W with hid := hid }
theorem Lw.show_ {hid : Addr → Prop} (h : ∀ a, hid a → W.hid a) : Lw W (W.show_ hid) :=
  ⟨Nat.le_refl _, fun _ _ => rfl, fun a u e s => ⟨e, fun q => s.1 (h a q), s.2⟩, rfl, fun _ _ _ e => e⟩
theorem Rep.show_ (R : Rep K W S) {hid : Addr → Prop} (h : ∀ a, hid a → W.hid a) : Rep K (W.show_ hid) S :=
  ⟨R.len, R.inj, fun a q => R.hid a (h a q), fun i u e => (R.obj i u e).mw (Lw.show_ h) rfl, R.lk⟩
end

theorem compD_guard {t : Tg} {me mc : Ev → Store → Out AV} {gs : List (Nat × List AV)} {ρ : Ev} {its : List AV} {S S' : Store} {l : List AV} (h : compD t me mc gs ρ its S = .ok l S') : Gd gs S := by
  cases its with
  | nil =>
    unfold compD at h
    split at h
    · assumption
    · cases h
  | cons a r =>
    unfold compD at h
    split at h
    · assumption
    · cases h
theorem compD_nil {t : Tg} {me mc : Ev → Store → Out AV} {gs : List (Nat × List AV)} {ρ : Ev} {S S' : Store} {l : List AV} (h : compD t me mc gs ρ [] S = .ok l S') : l = [] ∧ S' = S := by
  unfold compD at h
  split at h
  · cases h; exact ⟨rfl, rfl⟩
  · cases h
theorem compD_cons {t : Tg} {me mc : Ev → Store → Out AV} {gs : List (Nat × List AV)} {ρ : Ev} {a : AV} {r : List AV} {S S' : Store} {l : List AV} (h : compD t me mc gs ρ (a :: r) S = .ok l S') :
    ∃ ρ1 b S1, tgD t a ρ = some ρ1 ∧ mc ρ1 S = .ok (.bl b) S1 ∧ ((b = false ∧ compD t me mc gs ρ r S1 = .ok l S') ∨ ∃ x S2 l', b = true ∧ me ρ1 S1 = .ok x S2 ∧ compD t me mc gs ρ r S2 = .ok l' S' ∧ l = x :: l' ∧ l'.length < sizeLine) := by
  unfold compD at h
  split at h
  · split at h
    · rename_i ρ1 e
      obtain ⟨b, S1, e1, h⟩ := Out.bd_eq h
      cases b with
      | bl b =>
        cases b with
        | false => exact ⟨ρ1, false, S1, e, e1, .inl ⟨rfl, h⟩⟩
        | true =>
          obtain ⟨x, S2, e2, h⟩ := Out.bd_eq h
          obtain ⟨l', S3, e3, h⟩ := Out.bd_eq h
          split at h
          · cases h
            exact ⟨ρ1, true, S1, e, e1, .inr ⟨x, S2, l', rfl, e2, e3, rfl, by assumption⟩⟩
          · cases h
      | _ => cases h
    · cases h
  · cases h
theorem compD_len {t : Tg} {me mc : Ev → Store → Out AV} {gs : List (Nat × List AV)} {ρ : Ev} : ∀ {its : List AV} {S S' : Store} {l : List AV}, compD t me mc gs ρ its S = .ok l S' → l.length ≤ sizeLine := by
  intro its
  induction its with
  | nil => intro S S' l h; obtain ⟨rfl, _⟩ := compD_nil h; exact Nat.zero_le _
  | cons a r ih =>
    intro S S' l h
    obtain ⟨_, _, _, _, _, k | ⟨_, _, _, _, _, _, el, k⟩⟩ := compD_cons h
    · exact ih k.2
    · rw [el]; exact k
theorem SlEq.wipe {vs vs' : List Nat} {σ σ' : L2.St} (h : SlEq vs σ σ') (hv : ∀ i, i ∈ vs → i ∈ vs') (hl : σ'.length = σ.length) : L2.wipe σ' vs' = L2.wipe σ vs' := by
  have key : ∀ (ws : List Nat) (j : Nat) (τ : L2.St), (L2.wipe τ ws)[j]? = if j ∈ ws then (if j < τ.length then some none else none) else τ[j]? := by
    intro ws
    induction ws with
    | nil => intro j τ; simp [L2.wipe]
    | cons v ws ih =>
      intro j τ
      unfold L2.wipe
      by_cases hj : v = j
      · subst hj
        rw [List.getElem?_set]
        simp [wipe_length]
      · rw [List.getElem?_set_ne hj, ih]
        have : (j ∈ v :: ws) ↔ j ∈ ws := by simp [Ne.symm hj]
        by_cases h2 : j ∈ ws
        · simp [h2]
        · rw [if_neg h2, if_neg (by rw [this]; exact h2)]
  apply List.ext_getElem?
  intro j
  rw [key, key, hl]
  by_cases h2 : j ∈ vs'
  · simp [h2]
  · rw [if_neg h2, if_neg h2]
    exact h j fun q => h2 (hv j q)

mutual
theorem tgD_len : ∀ (t : Tg) {a : AV} {ρ ρ' : Ev}, tgD t a ρ = some ρ' → ρ'.length = ρ.length
  | .n i, a, ρ, ρ', e => by cases e; simp
  | .tup t, a, ρ, ρ', e => by
    cases a with
    | tup l => exact tgsD_len t e
    | _ => cases e
  | .nil, _, _, _, e => by cases e
  | .cons _ _, _, _, _, e => by cases e
theorem tgsD_len : ∀ (t : Tg) {l : List AV} {ρ ρ' : Ev}, tgsD t l ρ = some ρ' → ρ'.length = ρ.length
  | .nil, l, ρ, ρ', e => by
    cases l with
    | nil => cases e; rfl
    | cons _ _ => cases e
  | .cons t u, l, ρ, ρ', e => by
    cases l with
    | nil => cases e
    | cons a l =>
      have e : (match tgD t a ρ with
        | some ρ1 => tgsD u l ρ1
        | none => none) = some ρ' := e
      cases e1 : tgD t a ρ with
      | none => rw [e1] at e; cases e
      | some ρ1 => rw [e1] at e; rw [tgsD_len u e, tgD_len t e1]
  | .n _, _, _, _, e => by cases e
  | .tup _, _, _, _, e => by cases e
end
section
variable {X : Cx} {pos : Pos}
theorem comp_ok {K : PySem.W.Frag} {m : Bool} {own : List (Str × Nat)} {t : Tg} {mi : Ev → Store → Out (List AV × List (Nat × List AV))} {me mc : Ev → Store → Out AV} {tt : TT} {te : TE} {σ : L2.St} {H : Hp} {Q : VK} (hs : ∀ i, i ∈ t.slots → i ∈ own.map (·.2))
    (htt : ∀ σ H Q, TB K mc σ H Q → tt σ H Q) (hte : ∀ σ H Q, T K me σ H Q → te σ H Q)
    (h : T K (fun ρ S => (mi ρ S).bd fun w S1 => (compD t me mc w.2 (wipeE ρ (own.map (·.2))) w.1 S1).bd fun l S2 => mkL m l S2) σ H Q) : tLc (TIt K mi) (gOf K t) tt te (own.map (·.2)) σ H Q := by
  obtain ⟨W, ρ, S, st, r, S', e, P⟩ := h
  obtain ⟨w, S1, e1, e2⟩ := Out.bd_eq e
  obtain ⟨l, S2, e2, e3⟩ := Out.bd_eq e2
  have hlen := compD_len e2
  refine ⟨W, ρ, S, st, w, S1, e1, fun W1 J L1 R1 wk D hD => ?_⟩
  obtain ⟨G, Y, walk, hG, hY⟩ := wk
  have hDh : ¬ W1.hid D := (R1.free hD).1
  refine lc_it walk (fun i H => ∃ Wi Si acc avs rest, Wi.H = H ∧ Rep K Wi Si ∧ Lw W1 Wi ∧ Wi.hid = (W1.hide D).hid ∧ (∀ a u, W1.hid a → W1.H a = some u → Wi.H a = some u) ∧ Wi.H D = some (.lst acc) ∧ RVs K Wi avs acc ∧
      compD t me mc w.2 (wipeE ρ (own.map (·.2))) (w.1.drop i) Si = .ok rest S2 ∧ avs ++ rest = l) ?_ ?_ ?_ ?_
  · refine ⟨W1.hide D, S1, [], [], l, rfl, R1.hide hD, Lw.hide R1 hD, rfl, fun a u q e => ?_, upd_same, .nil, by simpa using e2, rfl⟩
    show upd W1.H D _ a = _
    rw [upd_ne (ne_of_none e hD)]; exact e
  · rintro i H hi ⟨Wi, Si, acc, avs, rest, rfl, Ri, Li, hh, ho, hd, ra, ec, el⟩
    exact hG Wi Si Li Ri (compD_guard ec)
  · rintro i x H H' hi ⟨Wi, Si, acc, avs, rest, rfl, Ri, Li, hh, ho, hd, ra, ec, el⟩ hy
    obtain ⟨W2, a, rfl, L2', R2, ha, rx⟩ := hY Wi Si i x H' Li Ri (compD_guard ec) hy
    have hdr : w.1.drop i = a :: w.1.drop (i + 1) := by
      obtain ⟨h1, h2⟩ := List.getElem?_eq_some_iff.mp ha
      rw [List.drop_eq_getElem_cons h1, h2]
    rw [hdr] at ec
    obtain ⟨ρ1, b, S3, q1, q2, q3⟩ := compD_cons ec
    have er : ER K W2 (wipeE ρ (own.map (·.2))) (wipe σ (own.map (·.2))) := ((st.er.mono L1).mw (Li.trans L2'.lw)).wipe _
    refine gOf_ok t q1 rx er fun σ2 er2 sl => ⟨sl.wipe hs ?_ |>.trans ?_, htt _ _ _ ⟨W2, ρ1, Si, ⟨rfl, R2, er2⟩, b, S3, q2, fun W3 L3 R3 => ?_⟩⟩
    · rw [← er2.len, ← er.len]
      exact tgD_len t q1
    · have key : ∀ (ws : List Nat) (τ : L2.St), wipe (wipe τ ws) ws = wipe τ ws := by
        intro ws τ
        exact SlEq.wipe (vs := ws) (fun j hj => by
          have k2 : ∀ (ws : List Nat) (τ : L2.St), j ∉ ws → (wipe τ ws)[j]? = τ[j]? := by
            intro ws
            induction ws with
            | nil => intro τ _; rfl
            | cons v ws ih =>
              intro τ hj
              simp only [List.mem_cons, not_or] at hj
              unfold L2.wipe
              rw [List.getElem?_set_ne (Ne.symm hj.1), ih τ hj.2]
          exact k2 ws τ hj) (fun i h => h) (wipe_length _ _)
      exact key _ _
    · have L13 : Lw W1 W3 := (Li.trans L2'.lw).trans L3.lw
      have hh3 : W3.hid = (W1.hide D).hid := L3.hid.trans (L2'.hid.trans hh)
      have hDi : Wi.hid D := by rw [hh]; exact .inr rfl
      have hd2 : W2.H D = some (.lst acc) := L2'.hh D _ hDi hd
      have hd3 : W3.H D = some (.lst acc) := L3.hh D _ (by rw [L2'.hid]; exact hDi) hd2
      have ho3 : ∀ a u, W1.hid a → W1.H a = some u → W3.H a = some u := fun a u q e => L3.hh a u (by rw [L2'.hid, hh]; exact .inl q) (L2'.hh a u (by rw [hh]; exact .inl q) (ho a u q e))
      rcases q3 with ⟨rfl, q3⟩ | ⟨y, S4, l', rfl, q3, q4, el', hz⟩
      · dsimp only
        rw [if_neg (by decide)]
        exact ⟨W3, S3, acc, avs, rest, rfl, R3, L13, hh3, ho3, hd3, (ra.mono L2').mono L3, q3, el⟩
      · dsimp only
        rw [if_pos rfl]
        refine hte _ _ _ ⟨W3, ρ1, S3, ⟨rfl, R3, er2.mono L3⟩, y, S4, q3, fun W4 v L4 R4 rv => ?_⟩
        have hD3 : W3.hid D := by rw [hh3]; exact .inr rfl
        have hD4 : W4.hid D := by rw [L4.hid]; exact hD3
        have ra4 := ((ra.mono L2').mono L3).mono L4
        subst el'
        refine ⟨acc, L4.hh D _ hD3 hd3, ?_, W4.fill D (acc ++ [v]), S4, acc ++ [v], avs ++ [y], l', rfl, R4.fill hD4, (L13.trans L4.lw).trans (Lw.fill hD4 (R4.hlk hD4)), L4.hid.trans hh3, fun a u q e => ?_, upd_same, (ra4.append (.cons rv .nil)).mw (Lw.fill hD4 (R4.hlk hD4)), q4, ?_⟩
        · have h1 := ra4.len
          have h2 : (avs ++ y :: l').length = l.length := by rw [el]
          rw [List.length_append, List.length_cons] at h2
          omega
        · show upd W4.H D _ a = _
          rw [upd_ne (fun z => hDh (by rw [← z]; exact q))]
          exact L4.hh a u (by rw [hh3]; exact .inl q) (ho3 a u q e)
        · rw [List.append_assoc]; exact el
  · rintro H ⟨Wi, Si, acc, avs, rest, rfl, Ri, Li, hh, ho, hd, ra, ec, el⟩
    rw [List.drop_eq_nil_of_le (Nat.le_refl _)] at ec
    obtain ⟨rfl, rfl⟩ := compD_nil ec
    rw [List.append_nil] at el
    subst el
    have hDi : Wi.hid D := by rw [hh]; exact .inr rfl
    have sub : ∀ a, W1.hid a → Wi.hid a := fun a q => by rw [hh]; exact .inl q
    have hφ := (Ri.hid D hDi).2
    have Lf : Lw W1 (Wi.show_ W1.hid) := Li.trans (Lw.show_ sub)
    have Lf' : Le W1 (Wi.show_ W1.hid) := Lf.le rfl ho
    have Rf := Ri.show_ sub
    have rf := ra.mw (Lw.show_ sub)
    cases m with
    | false =>
      cases e3
      exact P (Wi.show_ W1.hid) (.ref D) (L1.trans Lf') Rf (.lst hd ⟨hDh, hφ⟩ rf)
    | true =>
      rw [mkL_t] at e3
      have e4 : S' = S2 ++ [.lst avs] ∧ r = .loc S2.length := by cases e3; exact ⟨rfl, rfl⟩
      obtain ⟨rfl, rfl⟩ := e4
      let Wf : Wd := { Wi.show_ W1.hid with n := Wi.n + 1, φ := fun i => if i = Wi.n then D else Wi.φ i }
      have φe : ∀ i, i < Wi.n → Wf.φ i = Wi.φ i := fun i hi => if_neg (Nat.ne_of_lt hi)
      have φD : Wf.φ Wi.n = D := if_pos rfl
      have Lo : Lw Wi Wf := ⟨Nat.le_succ _, φe, fun a u e q => ⟨e, fun z => q.1 (sub a z), fun i hi => by
        by_cases hin : i = Wi.n
        · rw [hin, φD]; intro z; exact q.1 (by rw [← z]; exact hDi)
        · have hi' : i < Wi.n := by have : i < Wi.n + 1 := hi; omega
          rw [φe i hi']; exact q.2 i hi'⟩, rfl, fun _ _ _ e => e⟩
      have Ro : Rep K Wf (S2 ++ [.lst avs]) := by
        refine ⟨by rw [List.length_append, Ri.len]; rfl, fun i j hi hj q => ?_, fun a q => ⟨(Ri.hid a (sub a q)).1, fun i hi => ?_⟩, fun i u q => ?_, fun a q => ?_⟩
        · have hi : i < Wi.n + 1 := hi
          have hj : j < Wi.n + 1 := hj
          by_cases h1 : i = Wi.n <;> by_cases h2 : j = Wi.n
          · omega
          · rw [h1, φD, φe j (by omega)] at q; exact absurd q.symm (hφ j (by omega))
          · rw [h2, φD, φe i (by omega)] at q; exact absurd q (hφ i (by omega))
          · rw [φe i (by omega), φe j (by omega)] at q; exact Ri.inj i j (by omega) (by omega) q
        · have hi : i < Wi.n + 1 := hi
          by_cases h1 : i = Wi.n
          · rw [h1, φD]; intro z; exact hDh (by rw [z]; exact q)
          · rw [φe i (by omega)]; exact (Ri.hid a (sub a q)).2 i (by omega)
        · by_cases hi : i < S2.length
          · rw [List.getElem?_append_left hi] at q
            rw [φe i (by rw [← Ri.len]; exact hi)]
            exact (Ri.obj i u q).mw Lo rfl
          · have hi' : i = S2.length := by
              have := (List.getElem?_eq_some_iff.mp q).1
              simp at this; omega
            subst hi'
            have eu : u = .lst avs := by simpa using q.symm
            subst eu
            rw [Ri.len, φD]
            exact ⟨acc, hd, ra.mw Lo⟩
        · obtain ⟨j, u, e1, e2, e3⟩ := Ri.lk a q
          have hj := (List.getElem?_eq_some_iff.mp e1).1
          exact ⟨j, u, by rw [List.getElem?_append_left hj]; exact e1, (φe j (by rw [← Ri.len]; exact hj)).trans e2, e3⟩
      have q := P Wf (.ref (Wf.φ Wi.n)) (L1.trans ((Li.trans Lo).le rfl ho)) Ro (by rw [Ri.len]; exact .loc (Nat.lt_succ_self _))
      rw [φD] at q
      exact q
end
end VI

set_option maxRecDepth 100000
set_option maxHeartbeats 2000000
/-! VI9: every expression of the text does what its twin does. -/
namespace VI
open PySem PySem.Spec PyProof.Rows L2 RZ

section
variable {P : Program} {w : World} {K : PySem.W.Frag} {mg : Str → Option Value} {base : Heap} {k : Nat} {N : List Str}
structure OkE (P : Program) (w : World) (K : PySem.W.Frag) (mg : Str → Option Value) (base : Heap) (k : Nat) (N : List Str) (a : E) : Prop where
  val : ∀ X sc e, GE P w K mg base k N X sc → Lk K mg (Fx P w K mg base k) (Go P w K mg base k) a → ce N a sc e = true → PE X e (T K (den a))
  tst : ∀ X sc e, GE P w K mg base k N X sc → Lk K mg (Fx P w K mg base k) (Go P w K mg base k) a → ce N a sc e = true → isIf e = false → PT X e (TB K fun ρ S => truD (den a ρ S))
  bo : ∀ X sc op vs p, GE P w K mg base k N X sc → Lk K mg (Fx P w K mg base k) (Go P w K mg base k) a → ce N a sc (.BoolOp op vs p) = true → PW X (.BoolOp op vs p) (TB K fun ρ S => truD (den a ρ S))
  args : ∀ X sc es, GE P w K mg base k N X sc → Lk K mg (Fx P w K mg base k) (Go P w K mg base k) a → ceL N a sc es = true → PA X es (TL K (denL a))
  fs : ∀ X sc es, GE P w K mg base k N X sc → Lk K mg (Fx P w K mg base k) (Go P w K mg base k) a → ceL N a sc es = true → PEs X es (denF a)
  it : ∀ X sc tg e, GE P w K mg base k N X sc → Lk K mg (Fx P w K mg base k) (Go P w K mg base k) a → ceI N a sc tg e = true → PI X tg e (TIt K (denI a))

theorem plT_ok {e : Expr} (h : plT e = true) (env : Env) : ∀ whole, isTrue e env whole = (do let v ← whole; standAt e.pos; holding [v] (truthy v)) := by
  intro whole
  cases e with
  | UnaryOp op x p => cases op <;> first | rfl | cases h
  | _ => first | rfl | cases h
theorem tst_plain {X : Cx} {e : Expr} {m : Ev → Store → Out AV} (h : PE X e (T X.K m)) (hp : plT e = true) : PT X e (TB X.K fun ρ S => truD (m ρ S)) :=
  (pt_truth h (plT_ok hp X.env)).w fun _ _ _ q => TB_tru q
/-- a form that is a value and no test of its own -/
theorem OkE.of {a : E} (hv : ∀ X sc e, GE P w K mg base k N X sc → Lk K mg (Fx P w K mg base k) (Go P w K mg base k) a → ce N a sc e = true → PE X e (T K (den a)))
    (hp : ∀ sc e, ce N a sc e = true → plT e = true) (ha : ∀ sc es, ceL N a sc es = false) (hi : ∀ sc tg e, ceI N a sc tg e = false) : OkE P w K mg base k N a where
  val := hv
  tst := fun X sc e g l c _ => by
    have h := hv X sc e g l c
    obtain ⟨rfl, rfl, rfl, rfl, rfl, rfl, -, -, -, -⟩ := g
    exact tst_plain h (hp sc e c)
  bo := fun X sc op vs p g l c => by have := hp sc _ c; cases this
  args := fun X sc es g l c => by rw [ha] at c; cases c
  fs := fun X sc es g l c => by rw [ha] at c; cases c
  it := fun X sc tg e g l c => by rw [hi] at c; cases c
theorem ceL_ho {l : E} {sc : Scope} {es : List Expr} {env : Env} (h : ceL N l sc es = true) : ∀ e r, es = e :: r → odd e = false ∧ (starEach r env).any (·.1) = false := by
  intro e r he
  subst he
  cases l with
  | cons a b =>
    simp only [ceL, Bool.and_eq_true, Bool.not_eq_true'] at h
    exact ⟨h.1.2, star_plain h.2⟩
  | _ => cases h
theorem ceL_h0 {l : E} {sc : Scope} {es : List Expr} (h : ceL N l sc es = true) : es = [] → denL l = fun _ S => .ok [] S := by
  intro he
  subst he
  cases l with
  | nil => funext ρ S; rfl
  | cons a b => cases h
  | _ => cases h
theorem den_v (i : Nat) : den (.v i) = fun ρ S => match ρ[i]? with
    | some (some a) => .ok a S
    | _ => .no := rfl
/-- what a comprehension is made of -/
theorem comp_pk {m : Bool} {own : List Nat} {t : Tg} {it e1 cd : E} (ihi : OkE P w K mg base k N it) (ihe : OkE P w K mg base k N e1) (ihc : OkE P w K mg base k N cd) {X : Cx} {sc : Scope} {e : Expr} (g : GE P w K mg base k N X sc) (l : Lk K mg (Fx P w K mg base k) (Go P w K mg base k) (.comp m own t it e1 cd)) (h : ce N (.comp m own t it e1 cd) sc e = true) :
    ∃ elt tg iter ifs scope p, ∃ (own' : List (Str × Nat)) (g' : TG) (tt : TT), e = .ListComp elt [⟨tg, iter, ifs, 0⟩] scope p ∧ X.calm = true ∧ X.N.Nodup ∧ PI X tg iter (TIt K (denI it)) ∧ BlkOk X.N X.env.scope scope own' ∧
      (∀ s H C cl fp, PG (X.blk s H scope (compEnvC scope cl C X.env) fp) tg g') ∧ (∀ s H C cl fp, PTs (X.blk s H scope (compEnvC scope cl C X.env) fp) ifs tt) ∧ (∀ s H C cl fp, PE (X.blk s H scope (compEnvC scope cl C X.env) fp) elt (T K (den e1))) ∧
      (∀ x, foldedSetIterable iter X.env x = pure x) ∧ ∀ σ H Q, T K (den (.comp m own t it e1 cd)) σ H Q → tLc (TIt K (denI it)) g' tt (T K (den e1)) (own'.map (·.2)) σ H Q := by
  have h' : ∃ elt tg iter ifs scope p, e = .ListComp elt [⟨tg, iter, ifs, 0⟩] scope p ∧ blkC N sc scope (own.map fun i => (N.getD i ⟨#[]⟩, i)) = true ∧ ceI N it sc tg iter = true ∧ odd iter = false ∧ (t.slots.all fun i => own.contains i) = true ∧
      ceT N (relS scope sc) (fun x => scope.names.lookup x == some .cell) t tg = true ∧ ce N e1 (relS scope sc) elt = true ∧ ((ifs = [] ∧ cd = .nop) ∨ ∃ c, ifs = [c] ∧ cd.isNop = false ∧ ce N cd (relS scope sc) c = true ∧ isIf c = false) := by
    simp only [ce] at h
    split at h
    · rename_i elt tg iter ifs ay scope p
      simp only [Bool.and_eq_true, Bool.not_eq_true', decide_eq_true_eq] at h
      obtain ⟨⟨⟨⟨⟨⟨⟨h1, h2⟩, h3⟩, h4⟩, h5⟩, h6⟩, h7⟩, h8⟩ := h
      subst h1
      refine ⟨elt, tg, iter, ifs, scope, p, rfl, h2, h3, h4, h5, h6, h7, ?_⟩
      cases ifs with
      | nil => exact .inl ⟨rfl, by cases cd <;> first | rfl | cases h8⟩
      | cons c r => cases r with
        | nil =>
          simp only [Bool.and_eq_true, Bool.not_eq_true'] at h8
          exact .inr ⟨c, rfl, h8.1.1, h8.1.2, h8.2⟩
        | cons _ _ => cases h8
    · cases h
  obtain ⟨elt, tg, iter, ifs, scope, p, rfl, h2, h3, h4, h5, h6, h7, h8⟩ := h'
  have kI := ihi.it X sc tg iter g l.1 h3
  have hN := g.hN
  have nd := g.nd
  have calm := g.calm
  have blk := fun s H C cl fp => g.blk s H scope C cl fp
  have ok : BlkOk X.N X.env.scope scope (own.map fun i => (N.getD i ⟨#[]⟩, i)) := by rw [hN, g.scope]; exact blkOk_by h2
  have own2 : (own.map fun i => (N.getD i ⟨#[]⟩, i)).map (·.2) = own := by rw [List.map_map]; exact List.map_id' own
  have hsl : ∀ i, i ∈ t.slots → i ∈ (own.map fun i => (N.getD i ⟨#[]⟩, i)).map (·.2) := fun i hi => by
    rw [own2]
    have := List.all_eq_true.mp h5 i hi
    simpa using this
  have kE : ∀ s H C cl fp, PE (X.blk s H scope (compEnvC scope cl C X.env) fp) elt (T K (den e1)) := fun s H C cl fp => ihe.val _ _ elt (blk s H C cl fp) l.2.1 h7
  have kT : ∀ s H C cl fp, PG (X.blk s H scope (compEnvC scope cl C X.env) fp) tg (gOf K t) := fun s H C cl fp => by
    have q := pg_V (X := X.blk s H scope (compEnvC scope cl C X.env) fp) calm (by rw [← hN] at nd; exact nd) (blk s H C cl fp).scope rfl t tg (by show ceT X.N _ _ t tg = true; rw [hN]; exact h6)
    have hK : X.K = K := g.hK
    rw [show (X.blk s H scope (compEnvC scope cl C X.env) fp).K = K from hK] at q
    exact q
  let mc : Ev → Store → Out AV := cdD cd.isNop (den cd)
  have kC : ∃ tt : TT, (∀ s H C cl fp, PTs (X.blk s H scope (compEnvC scope cl C X.env) fp) ifs tt) ∧ ∀ σ H Q, TB K mc σ H Q → tt σ H Q := by
    rcases h8 with ⟨rfl, rfl⟩ | ⟨c, rfl, hn, h8, h9⟩
    · refine ⟨tYes, fun _ _ _ _ _ => pts_nil, fun σ H Q q => ?_⟩
      obtain ⟨W, ρ, S, st, b, S', e, P⟩ := q
      cases e
      have := P W (Le.refl W) st.rep
      rw [st.hH] at this
      exact this
    · have em : mc = fun ρ S => truD (den cd ρ S) := by show cdD cd.isNop (den cd) = _; rw [hn]; rfl
      rw [em]
      exact ⟨_, fun s H C cl fp => pts_one (ihc.tst _ _ c (blk s H C cl fp) l.2.2 h8 h9), fun _ _ _ q => q⟩
  obtain ⟨tt, kC1, kC2⟩ := kC
  refine ⟨elt, tg, iter, ifs, scope, p, _, gOf K t, tt, rfl, calm, by rw [hN]; exact nd, kI, ok, kT, kC1, kE, odd_fold h4, fun σ H Q q => ?_⟩
  refine comp_ok (m := m) (mc := mc) (me := den e1) hsl kC2 (fun _ _ _ q => q) ?_
  rw [own2]
  exact q
theorem okE : ∀ a : E, OkE P w K mg base k N a := by
  intro a
  induction a with
  | nop => exact .of (fun _ _ _ _ _ h => by cases h) (fun _ _ h => by cases h) (fun _ _ => rfl) (fun _ _ _ => rfl)
  | nil =>
    refine ⟨fun _ _ _ _ _ h => (by cases h), fun _ _ _ _ _ h => (by cases h), fun _ _ _ _ _ _ _ h => (by cases h), fun X sc es g l h => ?_, fun X sc es g l h => ?_, fun _ _ _ _ _ _ h => (by cases h)⟩
    · cases es with
      | nil => obtain ⟨rfl, rfl, rfl, rfl, rfl, -, -, -, -, -⟩ := g; exact pa_nilV
      | cons _ _ => cases h
    · cases es with
      | nil => exact .nil
      | cons _ _ => cases h
  | cons a r iha ihr =>
    refine ⟨fun _ _ _ _ _ h => (by cases h), fun _ _ _ _ _ h => (by cases h), fun _ _ _ _ _ _ _ h => (by cases h), fun X sc es g l h => ?_, fun X sc es g l h => ?_, fun _ _ _ _ _ _ h => (by cases h)⟩
    · cases es with
      | nil => cases h
      | cons e es =>
        simp only [ceL, Bool.and_eq_true, Bool.not_eq_true'] at h
        have h1 := iha.val X sc e g l.1 h.1.1
        have h2 := ihr.args X sc es g l.2 h.2
        obtain ⟨rfl, rfl, rfl, rfl, rfl, -, -, -, -, -⟩ := g
        exact pa_consV h1 h2 h.1.2
    · cases es with
      | nil => cases h
      | cons e es =>
        simp only [ceL, Bool.and_eq_true, Bool.not_eq_true'] at h
        have h1 := iha.val X sc e g l.1 h.1.1
        have h2 := ihr.fs X sc es g l.2 h.2
        obtain ⟨rfl, rfl, rfl, rfl, rfl, -, -, -, -, -⟩ := g
        exact .cons h1 h.1.2 h2
  | ext F a iha =>
    refine .of (fun X sc e g l h => ?_) (fun sc e h => ?_) (fun _ _ => rfl) (fun _ _ _ => rfl)
    · simp only [ce, Bool.and_eq_true] at h
      have h2 := h.2
      cases em : F.mat sc e with
      | none => rw [em] at h2; cases h2
      | some es =>
        rw [em] at h2
        exact l.1 N X sc e es _ g em (iha.fs X sc es g l.2 h2)
    · simp only [ce, Bool.and_eq_true] at h
      exact h.1.1
  | iext F a iha =>
    refine ⟨fun _ _ _ _ _ h => (by cases h), fun _ _ _ _ _ h => (by cases h), fun _ _ _ _ _ _ _ h => (by cases h), fun _ _ _ _ _ h => (by cases h), fun _ _ _ _ _ h => (by cases h), fun X sc tg e g l h => ?_⟩
    have h : (match F.mat sc tg e with
      | some es => ceL N a sc es
      | none => false) = true := h
    cases em : F.mat sc tg e with
    | none => rw [em] at h; cases h
    | some es =>
      rw [em] at h
      exact l.1 N X sc tg e es _ g em (iha.fs X sc es g l.2 h)
  | v i =>
    refine .of (fun X sc e g l h => ?_) (fun sc e h => by cases e <;> first | rfl | cases h) (fun _ _ => rfl) (fun _ _ _ => rfl)
    cases e with
    | Name x p =>
      simp only [ce, Bool.and_eq_true, Bool.not_eq_true', decide_eq_true_eq] at h
      obtain ⟨⟨⟨h1, h2⟩, h3⟩, h4⟩ := h
      have hv := g.vis h2
      have hN := g.hN
      obtain ⟨rfl, rfl, rfl, rfl, rfl, -, -, -, -, -⟩ := g
      refine (pe_var (i := i) (by rw [hN]; exact h1) hv h3 h4).w fun σ H Q q => ?_
      obtain ⟨W, ρ, S, st, r, S', e, P⟩ := q
      rw [den_v] at e
      dsimp only at e
      split at e
      · rename_i a ea
        cases e
        obtain ⟨y, e1, e2⟩ := st.er.at_ i _ ea
        refine ⟨y, e1, ?_⟩
        rw [← st.hH]
        exact P W y (Le.refl W) st.rep e2
      · cases e
    | _ => cases h
  | c a =>
    refine .of (fun X sc e g l h => ?_) (fun sc e h => by cases e <;> first | rfl | cases h) (fun _ _ => rfl) (fun _ _ _ => rfl)
    cases e with
    | Constant cc kk p =>
      obtain ⟨rfl, rfl, rfl, rfl, rfl, -, -, -, -, -⟩ := g
      have h : cstB cc a = true := h
      have go : ∀ {v : V}, PE X (.Constant cc kk p) (tC v) → (∀ W, RV X.K W a v) → PE X (.Constant cc kk p) (T X.K (den (.c a))) := fun {v} hp hr => hp.w fun σ H Q q => by
        obtain ⟨W, ρ, S, st, r, S', e, P⟩ := q
        cases e
        show Q v H
        rw [← st.hH]
        exact P W v (Le.refl W) st.rep (hr W)
      cases cc with
      | int i => cases a with
        | int j =>
          have : i = j := by simpa [cstB] using h
          subst this
          exact go pe_int fun W => .int i
        | _ => cases h
      | bool i => cases a with
        | bl j =>
          have : i = j := by simpa [cstB] using h
          subst this
          exact go pe_bl fun W => .bl i
        | _ => cases h
      | none => cases a with
        | non => exact go pe_non fun W => .non
        | _ => cases h
      | str x => cases a with
        | str y =>
          have : x = y := by simpa [cstB] using h
          subst this
          exact go pe_str fun W => .str x
        | _ => cases h
      | _ => cases h
    | _ => cases h
  | g x a =>
    refine .of (fun X sc e g l h => ?_) (fun sc e h => by cases e <;> first | rfl | cases h) (fun _ _ => rfl) (fun _ _ _ => rfl)
    cases e with
    | Name y p =>
      simp only [ce, Bool.and_eq_true, decide_eq_true_eq] at h
      obtain ⟨rfl, h2⟩ := h
      obtain ⟨g1, g2⟩ := g.gl h2
      obtain ⟨rfl, rfl, rfl, rfl, rfl, -, -, -, -, -⟩ := g
      obtain ⟨u, v, hm, hr, hv⟩ := l
      refine (pe_glob g1 hm hr g2).w fun σ H Q q => ?_
      obtain ⟨W, ρ, S, st, r, S', e, P⟩ := q
      cases e
      show Q v H
      rw [← st.hH]
      exact P W v (Le.refl W) st.rep (hv W)
    | _ => cases h
  | bt n =>
    refine .of (fun X sc e g l h => ?_) (fun sc e h => by cases e <;> first | rfl | cases h) (fun _ _ => rfl) (fun _ _ _ => rfl)
    cases e with
    | Name y p =>
      simp only [ce, Bool.and_eq_true, decide_eq_true_eq] at h
      obtain ⟨⟨rfl, h2⟩, h3⟩ := h
      obtain ⟨g1, g2⟩ := g.gl h2
      obtain ⟨rfl, rfl, rfl, rfl, rfl, -, -, -, -, -⟩ := g
      obtain ⟨b1, b2⟩ := boot_ty h3
      refine (pe_bltn (v := .ty n) g1 l b1 rfl b2 g2).w fun σ H Q q => ?_
      obtain ⟨W, ρ, S, st, r, S', e, P⟩ := q
      cases e
      show Q _ H
      rw [← st.hH]
      exact P W _ (Le.refl W) st.rep (.ty n)
    | _ => cases h
  | bin m o a b iha ihb =>
    refine .of (fun X sc e g l h => ?_) (fun sc e h => by cases e <;> first | rfl | cases h) (fun _ _ => rfl) (fun _ _ _ => rfl)
    cases e with
    | BinOp x op y p =>
      simp only [ce, Bool.and_eq_true, decide_eq_true_eq] at h
      obtain ⟨⟨⟨rfl, h1⟩, h2⟩, h3⟩ := h
      have k1 := iha.val X sc x g l.1 h2
      have k2 := ihb.val X sc y g l.2 h3
      obtain ⟨rfl, rfl, rfl, rfl, rfl, -, -, -, -, -⟩ := g
      exact pe_binV h1 k1 k2
    | _ => cases h
  | neg a iha =>
    refine .of (fun X sc e g l h => ?_) (fun sc e h => by cases e <;> first | rfl | cases h | (rename_i op _ _; cases op <;> first | rfl | cases h)) (fun _ _ => rfl) (fun _ _ _ => rfl)
    cases e with
    | UnaryOp op x p =>
      cases op with
      | USub =>
        have k1 := iha.val X sc x g l h
        obtain ⟨rfl, rfl, rfl, rfl, rfl, -, -, -, -, -⟩ := g
        exact pe_negV k1
      | _ => cases h
    | _ => cases h
  | not a iha =>
    refine ⟨fun X sc e g l h => ?_, fun X sc e g l h _ => ?_, fun X sc op vs p g l h => (by cases h), fun _ _ _ _ _ h => (by cases h), fun _ _ _ _ _ h => (by cases h), fun _ _ _ _ _ _ h => (by cases h)⟩
    · cases e with
      | UnaryOp op x p =>
        cases op with
        | Not =>
          simp only [ce, Bool.and_eq_true, Bool.not_eq_true'] at h
          have k1 := iha.val X sc x g l h.1
          obtain ⟨rfl, rfl, rfl, rfl, rfl, -, -, -, -, -⟩ := g
          exact pe_notV k1
        | _ => cases h
      | _ => cases h
    · cases e with
      | UnaryOp op x p =>
        cases op with
        | Not =>
          simp only [ce, Bool.and_eq_true, Bool.not_eq_true'] at h
          have k1 := iha.tst X sc x g l h.1 h.2
          obtain ⟨rfl, rfl, rfl, rfl, rfl, -, -, -, -, -⟩ := g
          exact (pt_not k1).w fun _ _ _ q => tru_not q
        | _ => cases h
      | _ => cases h
  | cmp o a b iha ihb =>
    have key : ∀ X sc e, GE P w K mg base k N X sc → Lk K mg (Fx P w K mg base k) (Go P w K mg base k) (.cmp o a b) → ce N (.cmp o a b) sc e = true → PE X e (T K (den (.cmp o a b))) ∧ PT X e (TB K fun ρ S => truD (den (.cmp o a b) ρ S)) := fun X sc e g l h => by
      have h' : ∃ x op y p, e = .Compare x [op] [y] p ∧ op = opC o ∧ ce N a sc x = true ∧ ce N b sc y = true ∧ odd y = false := by
        cases e with
        | Compare x ops ys p =>
          cases ops with
          | nil => cases h
          | cons op ops => cases ops with
            | cons _ _ => cases h
            | nil => cases ys with
              | nil => cases h
              | cons y ys => cases ys with
                | cons _ _ => cases h
                | nil =>
                  simp only [ce, Bool.and_eq_true, Bool.not_eq_true', decide_eq_true_eq] at h
                  exact ⟨x, op, y, p, rfl, h.1.1.1, h.1.1.2, h.1.2, h.2⟩
        | _ => cases h
      obtain ⟨x, op, y, p, rfl, rfl, h1, h2, h3⟩ := h'
      have k1 := iha.val X sc x g l.1 h1
      have k2 := ihb.val X sc y g l.2 h2
      have hu := g.hu
      obtain ⟨rfl, rfl, rfl, rfl, rfl, -, -, -, -, -⟩ := g
      exact ⟨pe_cmpV hu k1 k2 (odd_marks h3 _), pt_cmpV hu k1 k2 (odd_marks h3 _)⟩
    exact ⟨fun X sc e g l h => (key X sc e g l h).1, fun X sc e g l h _ => (key X sc e g l h).2, fun X sc op vs p g l h => (by cases h), fun _ _ _ _ _ h => (by cases h), fun _ _ _ _ _ h => (by cases h), fun _ _ _ _ _ _ h => (by cases h)⟩
  | cmx F a b iha ihb =>
    have key : ∀ X sc e, GE P w K mg base k N X sc → Lk K mg (Fx P w K mg base k) (Go P w K mg base k) (.cmx F a b) → ce N (.cmx F a b) sc e = true → PE X e (T K (den (.cmx F a b))) ∧ PT X e (TB K fun ρ S => truD (den (.cmx F a b) ρ S)) := fun X sc e g l h => by
      have h' : ∃ x op y p, e = .Compare x [op] [y] p ∧ op = opC F.o ∧ ce N a sc x = true ∧ ce N b sc y = true ∧ odd y = false := by
        cases e with
        | Compare x ops ys p =>
          cases ops with
          | nil => cases h
          | cons op ops => cases ops with
            | cons _ _ => cases h
            | nil => cases ys with
              | nil => cases h
              | cons y ys => cases ys with
                | cons _ _ => cases h
                | nil =>
                  simp only [ce, Bool.and_eq_true, Bool.not_eq_true', decide_eq_true_eq] at h
                  exact ⟨x, op, y, p, rfl, h.1.1.1, h.1.1.2, h.1.2, h.2⟩
        | _ => cases h
      obtain ⟨x, op, y, p, rfl, rfl, h1, h2, h3⟩ := h'
      have k1 := iha.val X sc x g l.2.1 h1
      have k2 := ihb.val X sc y g l.2.2 h2
      have hf := l.1.1 N X sc g
      have hf2 := l.1.2
      obtain ⟨rfl, rfl, rfl, rfl, rfl, -, -, -, -, -⟩ := g
      exact ⟨pe_cmxV hf k1 k2 (odd_marks h3 _), pt_cmxV hf hf2 k1 k2 (odd_marks h3 _)⟩
    exact ⟨fun X sc e g l h => (key X sc e g l h).1, fun X sc e g l h _ => (key X sc e g l h).2, fun X sc op vs p g l h => (by cases h), fun _ _ _ _ _ h => (by cases h), fun _ _ _ _ _ h => (by cases h), fun _ _ _ _ _ _ h => (by cases h)⟩
  | chain o o' a b c iha ihb ihc =>
    have key : ∀ X sc e, GE P w K mg base k N X sc → Lk K mg (Fx P w K mg base k) (Go P w K mg base k) (.chain o o' a b c) → ce N (.chain o o' a b c) sc e = true → PE X e (T K (den (.chain o o' a b c))) ∧ PT X e (TB K fun ρ S => truD (den (.chain o o' a b c) ρ S)) := fun X sc e g l h => by
      have h' : ∃ x op op' y z p, e = .Compare x [op, op'] [y, z] p ∧ op = opC o ∧ op' = opC o' ∧ ce N a sc x = true ∧ ce N b sc y = true ∧ ce N c sc z = true ∧ odd z = false := by
        cases e with
        | Compare x ops ys p =>
          cases ops with
          | nil => cases h
          | cons op ops => cases ops with
            | nil => cases h
            | cons op' ops => cases ops with
              | cons _ _ => cases h
              | nil => cases ys with
                | nil => cases h
                | cons y ys => cases ys with
                  | nil => cases h
                  | cons z ys => cases ys with
                    | cons _ _ => cases h
                    | nil =>
                      simp only [ce, Bool.and_eq_true, Bool.not_eq_true', decide_eq_true_eq] at h
                      exact ⟨x, op, op', y, z, p, rfl, h.1.1.1.1.1, h.1.1.1.1.2, h.1.1.1.2, h.1.1.2, h.1.2, h.2⟩
        | _ => cases h
      obtain ⟨x, op, op', y, z, p, rfl, rfl, rfl, h1, h2, h3, h4⟩ := h'
      have k1 := iha.val X sc x g l.1 h1
      have k2 := ihb.val X sc y g l.2.1 h2
      have k3 := ihc.val X sc z g l.2.2 h3
      have hu := g.hu
      obtain ⟨rfl, rfl, rfl, rfl, rfl, -, -, -, -, -⟩ := g
      exact ⟨pe_chainV hu k1 k2 k3 (odd_marks h4 _), pt_chainV hu k1 k2 k3 (odd_marks h4 _)⟩
    exact ⟨fun X sc e g l h => (key X sc e g l h).1, fun X sc e g l h _ => (key X sc e g l h).2, fun X sc op vs p g l h => (by cases h), fun _ _ _ _ _ h => (by cases h), fun _ _ _ _ _ h => (by cases h), fun _ _ _ _ _ _ h => (by cases h)⟩
  | and a b iha ihb =>
    have key : ∀ X sc e, GE P w K mg base k N X sc → Lk K mg (Fx P w K mg base k) (Go P w K mg base k) (.and a b) → ce N (.and a b) sc e = true → PE X e (T K (den (.and a b))) ∧ PW X e (TB K fun ρ S => truD (den (.and a b) ρ S)) := fun X sc e g l h => by
      have h' : ∃ x y r p, e = .BoolOp .And (x :: y :: r) p ∧ ce N a sc x = true ∧ isIf x = false ∧ ((r = [] ∧ ce N b sc y = true ∧ isIf y = false) ∨ ce N b sc (.BoolOp .And (y :: r) p) = true) := by
        cases e with
        | BoolOp op vs p =>
          cases op with
          | And => cases vs with
            | nil => cases h
            | cons x vs => cases vs with
              | nil => cases h
              | cons y r =>
                simp only [ce, Bool.and_eq_true, Bool.not_eq_true'] at h
                cases r with
                | nil => exact ⟨x, y, [], p, rfl, h.1.1, h.1.2, .inl ⟨rfl, by simpa using h.2⟩⟩
                | cons z r => exact ⟨x, y, z :: r, p, rfl, h.1.1, h.1.2, .inr h.2⟩
          | _ => cases h
        | _ => cases h
      obtain ⟨x, y, r, p, rfl, h1, h2, h3⟩ := h'
      have k1 := iha.val X sc x g l.1 h1
      have k2 := iha.tst X sc x g l.1 h1 h2
      have k3 : PE X (.BoolOp .And (y :: r) p) (T K (den b)) ∧ PW X (.BoolOp .And (y :: r) p) (TB K fun ρ S => truD (den b ρ S)) := by
        rcases h3 with ⟨rfl, h3, h4⟩ | h3
        · exact ⟨pe_one (ihb.val X sc y g l.2 h3), pw_and1 (ihb.tst X sc y g l.2 h3 h4)⟩
        · exact ⟨ihb.val X sc _ g l.2 h3, ihb.bo X sc _ _ _ g l.2 h3⟩
      obtain ⟨rfl, rfl, rfl, rfl, rfl, -, -, -, -, -⟩ := g
      exact ⟨(pe_andT k1 k3.1).w fun _ _ _ q => T_and q, (pw_and k2 k3.2).w fun _ _ _ q => tru_and q⟩
    exact ⟨fun X sc e g l h => (key X sc e g l h).1, fun X sc e g l h _ => (key X sc e g l h).2.pt, fun X sc op vs p g l h => (key X sc _ g l h).2, fun _ _ _ _ _ h => (by cases h), fun _ _ _ _ _ h => (by cases h), fun _ _ _ _ _ _ h => (by cases h)⟩
  | or a b iha ihb =>
    have key : ∀ X sc e, GE P w K mg base k N X sc → Lk K mg (Fx P w K mg base k) (Go P w K mg base k) (.or a b) → ce N (.or a b) sc e = true → PE X e (T K (den (.or a b))) ∧ PW X e (TB K fun ρ S => truD (den (.or a b) ρ S)) := fun X sc e g l h => by
      have h' : ∃ x y r p, e = .BoolOp .Or (x :: y :: r) p ∧ ce N a sc x = true ∧ isIf x = false ∧ ((r = [] ∧ ce N b sc y = true ∧ isIf y = false) ∨ ce N b sc (.BoolOp .Or (y :: r) p) = true) := by
        cases e with
        | BoolOp op vs p =>
          cases op with
          | Or => cases vs with
            | nil => cases h
            | cons x vs => cases vs with
              | nil => cases h
              | cons y r =>
                simp only [ce, Bool.and_eq_true, Bool.not_eq_true'] at h
                cases r with
                | nil => exact ⟨x, y, [], p, rfl, h.1.1, h.1.2, .inl ⟨rfl, by simpa using h.2⟩⟩
                | cons z r => exact ⟨x, y, z :: r, p, rfl, h.1.1, h.1.2, .inr h.2⟩
          | _ => cases h
        | _ => cases h
      obtain ⟨x, y, r, p, rfl, h1, h2, h3⟩ := h'
      have k1 := iha.val X sc x g l.1 h1
      have k2 := iha.tst X sc x g l.1 h1 h2
      have k3 : PE X (.BoolOp .Or (y :: r) p) (T K (den b)) ∧ PW X (.BoolOp .Or (y :: r) p) (TB K fun ρ S => truD (den b ρ S)) := by
        rcases h3 with ⟨rfl, h3, h4⟩ | h3
        · exact ⟨pe_one (ihb.val X sc y g l.2 h3), pw_or1 (ihb.tst X sc y g l.2 h3 h4)⟩
        · exact ⟨ihb.val X sc _ g l.2 h3, ihb.bo X sc _ _ _ g l.2 h3⟩
      obtain ⟨rfl, rfl, rfl, rfl, rfl, -, -, -, -, -⟩ := g
      exact ⟨(pe_orT k1 k3.1).w fun _ _ _ q => T_or q, (pw_or k2 k3.2).w fun _ _ _ q => tru_or q⟩
    exact ⟨fun X sc e g l h => (key X sc e g l h).1, fun X sc e g l h _ => (key X sc e g l h).2.pt, fun X sc op vs p g l h => (key X sc _ g l h).2, fun _ _ _ _ _ h => (by cases h), fun _ _ _ _ _ h => (by cases h), fun _ _ _ _ _ _ h => (by cases h)⟩
  | ite c a b ihc iha ihb =>
    refine ⟨fun X sc e g l h => ?_, fun X sc e g l h hi => ?_, fun X sc op vs p g l h => (by cases h), fun _ _ _ _ _ h => (by cases h), fun _ _ _ _ _ h => (by cases h), fun _ _ _ _ _ _ h => (by cases h)⟩
    · cases e with
      | IfExp t x y p =>
        simp only [ce, Bool.and_eq_true, Bool.not_eq_true'] at h
        have k1 := ihc.tst X sc t g l.1 h.1.1.1 h.1.1.2
        have k2 := iha.val X sc x g l.2.1 h.1.2
        have k3 := ihb.val X sc y g l.2.2 h.2
        obtain ⟨rfl, rfl, rfl, rfl, rfl, -, -, -, -, -⟩ := g
        exact (pe_ifExp k1 k2 k3).w fun _ _ _ q => T_ite q
      | _ => cases h
    · cases e with
      | IfExp t x y p => cases hi
      | _ => cases h
  | tup a iha =>
    refine .of (fun X sc e g l h => ?_) (fun sc e h => by cases e <;> first | rfl | cases h) (fun _ _ => rfl) (fun _ _ _ => rfl)
    cases e with
    | Tuple es kk p =>
      have k1 := iha.args X sc es g l h
      obtain ⟨rfl, rfl, rfl, rfl, rfl, -, -, -, -, -⟩ := g
      exact pe_tupV k1
    | _ => cases h
  | lst m a iha =>
    refine .of (fun X sc e g l h => ?_) (fun sc e h => by cases e <;> first | rfl | cases h) (fun _ _ => rfl) (fun _ _ _ => rfl)
    cases e with
    | List es p =>
      have k1 := iha.args X sc es g l h
      obtain ⟨rfl, rfl, rfl, rfl, rfl, -, -, -, -, -⟩ := g
      exact pe_lstV k1
    | _ => cases h
  | ix a b iha ihb =>
    refine .of (fun X sc e g l h => ?_) (fun sc e h => by cases e <;> first | rfl | cases h) (fun _ _ => rfl) (fun _ _ _ => rfl)
    cases e with
    | Subscript x y p =>
      simp only [ce, Bool.and_eq_true, Bool.not_eq_true'] at h
      have k1 := iha.val X sc x g l.1 h.1.1
      have k2 := ihb.val X sc y g l.2 h.1.2
      have hu := g.hu
      obtain ⟨rfl, rfl, rfl, rfl, rfl, -, -, -, -, -⟩ := g
      exact pe_ixV (by omega) k1 k2 (odd_ix h.2)
    | _ => cases h
  | sl m a lo hi iha ihl ihh =>
    refine .of (fun X sc e g l h => ?_) (fun sc e h => by cases e <;> first | rfl | cases h) (fun _ _ => rfl) (fun _ _ _ => rfl)
    have h' : ∃ x lo' hi' p1 p, e = .Subscript x (.Slice lo' hi' none p1) p ∧ ce N a sc x = true ∧ ((lo' = none ∧ lo = .nop) ∨ ∃ z, lo' = some z ∧ lo.isNop = false ∧ ce N lo sc z = true) ∧ ((hi' = none ∧ hi = .nop) ∨ ∃ z, hi' = some z ∧ hi.isNop = false ∧ ce N hi sc z = true) := by
      cases e with
      | Subscript x y p =>
        cases y with
        | Slice lo' hi' st p1 =>
          cases st with
          | some _ => cases h
          | none =>
            simp only [ce, Bool.and_eq_true] at h
            have nn : ∀ {z : E}, z.isNop = true → z = .nop := fun {z} hz => by cases z <;> first | rfl | cases hz
            refine ⟨x, lo', hi', p1, p, rfl, h.1.1, ?_, ?_⟩
            · cases lo' with
              | none => exact .inl ⟨rfl, nn h.1.2⟩
              | some z => exact .inr ⟨z, rfl, by simpa using h.1.2⟩
            · cases hi' with
              | none => exact .inl ⟨rfl, nn h.2⟩
              | some z => exact .inr ⟨z, rfl, by simpa using h.2⟩
        | _ => cases h
      | _ => cases h
    obtain ⟨x, lo', hi', p1, p, rfl, h1, h2, h3⟩ := h'
    have k1 := iha.val X sc x g l.1 h1
    have k2 : PO X lo' (TOd K fun ρ S => prt lo.isNop (den lo ρ S)) := by
      rcases h2 with ⟨rfl, rfl⟩ | ⟨z, rfl, hz, h2⟩
      · obtain ⟨rfl, rfl, rfl, rfl, rfl, -, -, -, -, -⟩ := g
        exact po_noneV
      · have q := ihl.val X sc z g l.2.1 h2
        rw [hz]
        obtain ⟨rfl, rfl, rfl, rfl, rfl, -, -, -, -, -⟩ := g
        exact po_someV q
    have k3 : PO X hi' (TOd K fun ρ S => prt hi.isNop (den hi ρ S)) := by
      rcases h3 with ⟨rfl, rfl⟩ | ⟨z, rfl, hz, h3⟩
      · obtain ⟨rfl, rfl, rfl, rfl, rfl, -, -, -, -, -⟩ := g
        exact po_noneV
      · have q := ihh.val X sc z g l.2.2 h3
        rw [hz]
        obtain ⟨rfl, rfl, rfl, rfl, rfl, -, -, -, -, -⟩ := g
        exact po_someV q
    obtain ⟨rfl, rfl, rfl, rfl, rfl, -, -, -, -, -⟩ := g
    exact pe_slV k1 k2 k3
  | rev m a iha =>
    refine .of (fun X sc e g l h => ?_) (fun sc e h => by cases e <;> first | rfl | cases h) (fun _ _ => rfl) (fun _ _ _ => rfl)
    have h' : ∃ x kk p1 p2 p3 p, e = .Subscript x (.Slice none none (some (.UnaryOp .USub (.Constant (.int 1) kk p1) p2)) p3) p ∧ ce N a sc x = true := by
      simp only [ce] at h
      split at h
      · exact ⟨_, _, _, _, _, _, rfl, h⟩
      · cases h
    obtain ⟨x, kk, p1, p2, p3, p, rfl, h1⟩ := h'
    have k1 := iha.val X sc x g l h1
    obtain ⟨rfl, rfl, rfl, rfl, rfl, -, -, -, -, -⟩ := g
    exact pe_revV k1
  | lrg2 m a b iha ihb =>
    refine .of (fun X sc e g l h => ?_) (fun sc e h => by cases e <;> first | rfl | cases h) (fun _ _ => rfl) (fun _ _ _ => rfl)
    have h' : ∃ lx p1 rx p2 x y p3 p, e = .Call (.Name lx p1) [.Call (.Name rx p2) [x, y] [] p3] [] p ∧ lx = Str.ofString "list" ∧ rx = Str.ofString "range" ∧ glB sc lx = true ∧ glB sc rx = true ∧ ce N a sc x = true ∧ odd x = false ∧ ce N b sc y = true ∧ odd y = false := by
      simp only [ce] at h
      split at h
      · simp only [Bool.and_eq_true, Bool.not_eq_true', decide_eq_true_eq] at h
        exact ⟨_, _, _, _, _, _, _, _, rfl, h.1.1.1.1.1.1.1, h.1.1.1.1.1.1.2, h.1.1.1.1.1.2, h.1.1.1.1.2, h.1.1.1.2, h.1.1.2, h.1.2, h.2⟩
      · cases h
    obtain ⟨lx, p1, rx, p2, x, y, p3, p, rfl, e1, e2, g1, g2, h1, h2, h3, h4⟩ := h'
    have k1 := iha.val X sc x g l.2.2.1 h1
    have k2 := ihb.val X sc y g l.2.2.2 h3
    have q1 := g.gl g1
    have q2 := g.gl g2
    have hc := g.calm
    obtain ⟨rfl, rfl, rfl, rfl, rfl, -, -, -, -, -⟩ := g
    exact pe_lrg2V e1 e2 hc q1.1 l.1 q2.1 l.2.1 k1 h2 k2 h4
  | lrg3 m a b c iha ihb ihc =>
    refine .of (fun X sc e g l h => ?_) (fun sc e h => by cases e <;> first | rfl | cases h) (fun _ _ => rfl) (fun _ _ _ => rfl)
    have h' : ∃ lx p1 rx p2 x y z p3 p, e = .Call (.Name lx p1) [.Call (.Name rx p2) [x, y, z] [] p3] [] p ∧ lx = Str.ofString "list" ∧ rx = Str.ofString "range" ∧ glB sc lx = true ∧ glB sc rx = true ∧ ce N a sc x = true ∧ odd x = false ∧ ce N b sc y = true ∧ odd y = false ∧ ce N c sc z = true ∧ odd z = false := by
      simp only [ce] at h
      split at h
      · simp only [Bool.and_eq_true, Bool.not_eq_true', decide_eq_true_eq] at h
        exact ⟨_, _, _, _, _, _, _, _, _, rfl, h.1.1.1.1.1.1.1.1.1, h.1.1.1.1.1.1.1.1.2, h.1.1.1.1.1.1.1.2, h.1.1.1.1.1.1.2, h.1.1.1.1.1.2, h.1.1.1.1.2, h.1.1.1.2, h.1.1.2, h.1.2, h.2⟩
      · cases h
    obtain ⟨lx, p1, rx, p2, x, y, z, p3, p, rfl, e1, e2, g1, g2, h1, h2, h3, h4, h5, h6⟩ := h'
    have k1 := iha.val X sc x g l.2.2.1 h1
    have k2 := ihb.val X sc y g l.2.2.2.1 h3
    have k3 := ihc.val X sc z g l.2.2.2.2 h5
    have q1 := g.gl g1
    have q2 := g.gl g2
    have hc := g.calm
    obtain ⟨rfl, rfl, rfl, rfl, rfl, -, -, -, -, -⟩ := g
    exact pe_lrg3V e1 e2 hc q1.1 l.1 q2.1 l.2.1 k1 h2 k2 h4 k3 h6
  | sset m a iha =>
    refine .of (fun X sc e g l h => ?_) (fun sc e h => by cases e <;> first | rfl | cases h) (fun _ _ => rfl) (fun _ _ _ => rfl)
    have h' : ∃ lx p1 rx p2 x p3 p, e = .Call (.Name lx p1) [.Call (.Name rx p2) [x] [] p3] [] p ∧ lx = Str.ofString "sorted" ∧ rx = Str.ofString "set" ∧ glB sc lx = true ∧ glB sc rx = true ∧ ce N a sc x = true ∧ odd x = false := by
      simp only [ce] at h
      split at h
      · simp only [Bool.and_eq_true, Bool.not_eq_true', decide_eq_true_eq] at h
        exact ⟨_, _, _, _, _, _, _, rfl, h.1.1.1.1.1, h.1.1.1.1.2, h.1.1.1.2, h.1.1.2, h.1.2, h.2⟩
      · cases h
    obtain ⟨lx, p1, rx, p2, x, p3, p, rfl, e1, e2, g1, g2, h1, h2⟩ := h'
    have k1 := iha.val X sc x g l.2.2 h1
    have q1 := g.gl g1
    have q2 := g.gl g2
    have hc := g.calm
    obtain ⟨rfl, rfl, rfl, rfl, rfl, -, -, -, -, -⟩ := g
    exact pe_ssetV e1 e2 hc q1.1 l.1 q2.1 l.2.1 k1 h2
  | lrg m a iha =>
    refine .of (fun X sc e g l h => ?_) (fun sc e h => by cases e <;> first | rfl | cases h) (fun _ _ => rfl) (fun _ _ _ => rfl)
    have h' : ∃ lx p1 rx p2 x p3 p, e = .Call (.Name lx p1) [.Call (.Name rx p2) [x] [] p3] [] p ∧ lx = Str.ofString "list" ∧ rx = Str.ofString "range" ∧ glB sc lx = true ∧ glB sc rx = true ∧ ce N a sc x = true ∧ odd x = false := by
      simp only [ce] at h
      split at h
      · simp only [Bool.and_eq_true, Bool.not_eq_true', decide_eq_true_eq] at h
        exact ⟨_, _, _, _, _, _, _, rfl, h.1.1.1.1.1, h.1.1.1.1.2, h.1.1.1.2, h.1.1.2, h.1.2, h.2⟩
      · cases h
    obtain ⟨lx, p1, rx, p2, x, p3, p, rfl, e1, e2, g1, g2, h1, h2⟩ := h'
    have k1 := iha.val X sc x g l.2.2 h1
    have q1 := g.gl g1
    have q2 := g.gl g2
    have hc := g.calm
    obtain ⟨rfl, rfl, rfl, rfl, rfl, -, -, -, -, -⟩ := g
    exact pe_lrgV e1 e2 hc q1.1 l.1 q2.1 l.2.1 k1 h2
  | call f d a iha =>
    refine .of (fun X sc e g l h => ?_) (fun sc e h => by cases e <;> first | rfl | cases h) (fun _ _ => rfl) (fun _ _ _ => rfl)
    have h' : ∃ x p1 es p, e = .Call (.Name x p1) es [] p ∧ x = f ∧ glB sc x = true ∧ ceL N a sc es = true := by
      simp only [ce] at h
      split at h
      · simp only [Bool.and_eq_true, decide_eq_true_eq] at h
        exact ⟨_, _, _, _, rfl, h.1.1, h.1.2, h.2⟩
      · cases h
    obtain ⟨x, p1, es, p, rfl, e1, g1, h1⟩ := h'
    have k1 := iha.args X sc es g l.2 h1
    have q1 := g.gl g1
    have hr := g.room
    obtain ⟨rfl, rfl, rfl, rfl, rfl, -, -, -, -, -⟩ := g
    exact pe_callV e1 l.1 hr q1.1 q1.2 k1 (ceL_ho h1) (ceL_h0 h1)
  | prim m p a iha =>
    refine .of (fun X sc e g l h => ?_) (fun sc e h => by cases e <;> first | rfl | cases h) (fun _ _ => rfl) (fun _ _ _ => rfl)
    have h' : ∃ x p1 e1 es p', e = .Call (.Name x p1) (e1 :: es) [] p' ∧ x = Str.ofString (primN p) ∧ primOk p = true ∧ glB sc x = true ∧ ceL N a sc (e1 :: es) = true := by
      simp only [ce] at h
      split at h
      · simp only [Bool.and_eq_true, decide_eq_true_eq] at h
        exact ⟨_, _, _, _, _, rfl, h.1.1.1, h.1.1.2, h.1.2, h.2⟩
      · cases h
    obtain ⟨x, p1, e1, es, p', rfl, e2, hp, g1, h1⟩ := h'
    have k1 := iha.args X sc _ g l.2 h1
    have q1 := g.gl g1
    have hu : X.A.units + 64 < cLine := g.hu
    have hc := g.calm
    obtain ⟨rfl, rfl, rfl, rfl, rfl, -, -, -, -, -⟩ := g
    obtain ⟨o1, o2⟩ := ceL_ho (env := X.env) h1 e1 es rfl
    exact pe_primV hu e2 hp hc q1.1 q1.2 l.1 k1 o1 o2
  | met m p r a ihr iha =>
    refine .of (fun X sc e g l h => ?_) (fun sc e h => by cases e <;> first | rfl | cases h) (fun _ _ => rfl) (fun _ _ _ => rfl)
    have h' : ∃ o nm ap es cp, e = .Call (.Attribute o nm ap) es [] cp ∧ nm = Str.ofString (mthN p) ∧ mthOk p = true ∧ ce N r sc o = true ∧ isC0 o = false ∧ (ap.endLine == cp.line) = true ∧ es.length < 20 ∧ ceL N a sc es = true := by
      simp only [ce] at h
      split at h
      · simp only [Bool.and_eq_true, Bool.not_eq_true', decide_eq_true_eq] at h
        exact ⟨_, _, _, _, _, rfl, h.1.1.1.1.1.1, h.1.1.1.1.1.2, h.1.1.1.1.2, h.1.1.1.2, h.1.1.2, h.1.2, h.2⟩
      · cases h
    obtain ⟨o, nm, ap, es, cp, rfl, e2, hp, h0, h1, h2, h3, h4⟩ := h'
    have k1 := ihr.val X sc o g l.1 h0
    have k2 := iha.args X sc es g l.2 h4
    have hu := g.hu80
    obtain ⟨rfl, rfl, rfl, rfl, rfl, -, -, -, -, -⟩ := g
    exact pe_metV hu e2 hp k1 h1 h2 h3 k2 (ceL_ho h4) (ceL_h0 h4)
  | comp m own t it e1 cd ihi ihe ihc =>
    refine .of (fun X sc e g l h => ?_) (fun sc e h => by cases e <;> first | rfl | cases h) (fun _ _ => rfl) (fun _ _ _ => rfl)
    obtain ⟨elt, tg, iter, ifs, scope, p, own', g', tt, rfl, hc, hN, kI, ok, kT, kC, kE, hs, hT⟩ := comp_pk ihi ihe ihc g l h
    exact (pe_lc hc hN kI ok kT kC kE hs).w hT
  | itv a iha =>
    refine ⟨fun _ _ _ _ _ h => (by cases h), fun _ _ _ _ _ h => (by cases h), fun _ _ _ _ _ _ _ h => (by cases h), fun _ _ _ _ _ h => (by cases h), fun _ _ _ _ _ h => (by cases h), fun X sc tg e g l h => ?_⟩
    have k1 := iha.val X sc e g l h
    obtain ⟨rfl, rfl, rfl, rfl, rfl, -, -, -, -, -⟩ := g
    exact pi_itvV k1
  | it1 a iha =>
    refine ⟨fun _ _ _ _ _ h => (by cases h), fun _ _ _ _ _ h => (by cases h), fun _ _ _ _ _ _ _ h => (by cases h), fun _ _ _ _ _ h => (by cases h), fun _ _ _ _ _ h => (by cases h), fun X sc tg e g l h => ?_⟩
    have h' : ∃ r p1 x p, e = .Call (.Name r p1) [x] [] p ∧ r = Str.ofString "range" ∧ glB sc r = true ∧ ce N a sc x = true ∧ odd x = false := by
      simp only [ceI] at h
      split at h
      · simp only [Bool.and_eq_true, Bool.not_eq_true', decide_eq_true_eq] at h
        exact ⟨_, _, _, _, rfl, h.1.1.1, h.1.1.2, h.1.2, h.2⟩
      · cases h
    obtain ⟨r, p1, x, p, rfl, e1, g1, h1, h2⟩ := h'
    have k1 := iha.val X sc x g l.2 h1
    have q1 := g.gl g1
    obtain ⟨rfl, rfl, rfl, rfl, rfl, -, -, -, -, -⟩ := g
    exact pi_it1V e1 q1.1 l.1 k1 h2
  | it2 a b iha ihb =>
    refine ⟨fun _ _ _ _ _ h => (by cases h), fun _ _ _ _ _ h => (by cases h), fun _ _ _ _ _ _ _ h => (by cases h), fun _ _ _ _ _ h => (by cases h), fun _ _ _ _ _ h => (by cases h), fun X sc tg e g l h => ?_⟩
    have h' : ∃ r p1 x y p, e = .Call (.Name r p1) [x, y] [] p ∧ r = Str.ofString "range" ∧ glB sc r = true ∧ ce N a sc x = true ∧ odd x = false ∧ ce N b sc y = true ∧ odd y = false := by
      simp only [ceI] at h
      split at h
      · simp only [Bool.and_eq_true, Bool.not_eq_true', decide_eq_true_eq] at h
        exact ⟨_, _, _, _, _, rfl, h.1.1.1.1.1, h.1.1.1.1.2, h.1.1.1.2, h.1.1.2, h.1.2, h.2⟩
      · cases h
    obtain ⟨r, p1, x, y, p, rfl, e1, g1, h1, h2, h3, h4⟩ := h'
    have k1 := iha.val X sc x g l.2.1 h1
    have k2 := ihb.val X sc y g l.2.2 h3
    have q1 := g.gl g1
    obtain ⟨rfl, rfl, rfl, rfl, rfl, -, -, -, -, -⟩ := g
    exact pi_it2V e1 q1.1 l.1 k1 h2 k2 h4
  | it3 a b c iha ihb ihc =>
    refine ⟨fun _ _ _ _ _ h => (by cases h), fun _ _ _ _ _ h => (by cases h), fun _ _ _ _ _ _ _ h => (by cases h), fun _ _ _ _ _ h => (by cases h), fun _ _ _ _ _ h => (by cases h), fun X sc tg e g l h => ?_⟩
    have h' : ∃ r p1 x y z p, e = .Call (.Name r p1) [x, y, z] [] p ∧ r = Str.ofString "range" ∧ glB sc r = true ∧ ce N a sc x = true ∧ odd x = false ∧ ce N b sc y = true ∧ odd y = false ∧ ce N c sc z = true ∧ odd z = false := by
      simp only [ceI] at h
      split at h
      · simp only [Bool.and_eq_true, Bool.not_eq_true', decide_eq_true_eq] at h
        exact ⟨_, _, _, _, _, _, rfl, h.1.1.1.1.1.1.1, h.1.1.1.1.1.1.2, h.1.1.1.1.1.2, h.1.1.1.1.2, h.1.1.1.2, h.1.1.2, h.1.2, h.2⟩
      · cases h
    obtain ⟨r, p1, x, y, z, p, rfl, e1, g1, h1, h2, h3, h4, h5, h6⟩ := h'
    have k1 := iha.val X sc x g l.2.1 h1
    have k2 := ihb.val X sc y g l.2.2.1 h3
    have k3 := ihc.val X sc z g l.2.2.2 h5
    have q1 := g.gl g1
    obtain ⟨rfl, rfl, rfl, rfl, rfl, -, -, -, -, -⟩ := g
    exact pi_it3V e1 q1.1 l.1 k1 h2 k2 h4 k3 h6
  | ien a iha =>
    refine ⟨fun _ _ _ _ _ h => (by cases h), fun _ _ _ _ _ h => (by cases h), fun _ _ _ _ _ _ _ h => (by cases h), fun _ _ _ _ _ h => (by cases h), fun _ _ _ _ _ h => (by cases h), fun X sc tg e g l h => ?_⟩
    have h' : ∃ elts kk tp r p1 x p, tg = .Tuple elts kk tp ∧ e = .Call (.Name r p1) [x] [] p ∧ r = Str.ofString "enumerate" ∧ glB sc r = true ∧ ce N a sc x = true ∧ odd x = false := by
      simp only [ceI] at h
      split at h
      · split at h
        · simp only [Bool.and_eq_true, Bool.not_eq_true', decide_eq_true_eq] at h
          exact ⟨_, _, _, _, _, _, _, rfl, rfl, h.1.1.1, h.1.1.2, h.1.2, h.2⟩
        · cases h
      · cases h
    obtain ⟨elts, kk, tp, r, p1, x, p, rfl, rfl, e1, g1, h1, h2⟩ := h'
    have k1 := iha.val X sc x g l.2 h1
    have q1 := g.gl g1
    obtain ⟨rfl, rfl, rfl, rfl, rfl, -, -, -, -, -⟩ := g
    exact pi_ienV e1 q1.1 l.1 k1 h2
  | izp a b iha ihb =>
    refine ⟨fun _ _ _ _ _ h => (by cases h), fun _ _ _ _ _ h => (by cases h), fun _ _ _ _ _ _ _ h => (by cases h), fun _ _ _ _ _ h => (by cases h), fun _ _ _ _ _ h => (by cases h), fun X sc tg e g l h => ?_⟩
    have h' : ∃ elts kk tp r p1 x y p, tg = .Tuple elts kk tp ∧ e = .Call (.Name r p1) [x, y] [] p ∧ r = Str.ofString "zip" ∧ glB sc r = true ∧ ce N a sc x = true ∧ odd x = false ∧ ce N b sc y = true ∧ odd y = false := by
      simp only [ceI] at h
      split at h
      · split at h
        · simp only [Bool.and_eq_true, Bool.not_eq_true', decide_eq_true_eq] at h
          exact ⟨_, _, _, _, _, _, _, _, rfl, rfl, h.1.1.1.1.1, h.1.1.1.1.2, h.1.1.1.2, h.1.1.2, h.1.2, h.2⟩
        · cases h
      · cases h
    obtain ⟨elts, kk, tp, r, p1, x, y, p, rfl, rfl, e1, g1, h1, h2, h3, h4⟩ := h'
    have k1 := iha.val X sc x g l.2.1 h1
    have k2 := ihb.val X sc y g l.2.2 h3
    have q1 := g.gl g1
    obtain ⟨rfl, rfl, rfl, rfl, rfl, -, -, -, -, -⟩ := g
    exact pi_izpV e1 q1.1 l.1 k1 h2 k2 h4
  | ienz a b iha ihb => exact ⟨fun _ _ _ _ _ h => (by cases h), fun _ _ _ _ _ h => (by cases h), fun _ _ _ _ _ _ _ h => (by cases h), fun _ _ _ _ _ h => (by cases h), fun _ _ _ _ _ h => (by cases h), fun X sc tg e g l h => (by cases h)⟩
end
end VI

set_option maxRecDepth 100000
set_option maxHeartbeats 2000000
/-! VI10: statements; a def. -/
namespace VI
open PySem PySem.Spec PyProof.Rows L2 RZ

def isTupE : Expr → Bool
  | .Tuple .. => true
  | _ => false
mutual
def ceS (N : List Str) (sc : Scope) : St → Stmt → Bool
  | .asg t e, s => match s with
    | .Assign [tg] v _ => match tg with
      | .Name _ _ => ceT N sc (fun _ => true) t tg && ce N e sc v
      | .Tuple _ _ _ => ceT N sc (fun _ => true) t tg && ce N e sc v && !isTupE v
      | _ => false
    | _ => false
  | .aug i o e, s => match s with
    | .AugAssign (.Name x _) op v _ => decide (N[i]? = some x) && locB sc (fun _ => true) x && decide (op = opB o) && (decide (o = .add) || decide (o = .sub)) && ce N e sc v
    | _ => false
  | .set a i e, s => match s with
    | .Assign [.Subscript o k _] v _ => ce N a sc o && ce N i sc k && !odd k && ce N e sc v
    | _ => false
  | .ex e, s => match s with
    | .Expr v _ => ce N e sc v && !isLc v
    | _ => false
  | .ret e, s => match s with
    | .Return (some v) _ => ce N e sc v
    | _ => false
  | .ifs c a b, s => match s with
    | .If t x y _ => ce N c sc t && !isIf t && ceSs N sc a x && ceSs N sc b y
    | _ => false
  | .whl c b, s => match s with
    | .While t x [] _ => ce N c sc t && !isIf t && ceSs N sc b x
    | _ => false
  | .for t it b, s => match s with
    | .For tg iter x [] _ => ceT N sc (fun _ => true) t tg && ceI N it sc tg iter && !odd iter && ceSs N sc b x
    | _ => false
  | .opq, _ => true
  | .tr F a, s => match F.mat N sc s with
    | some ss => ceSs N sc a ss
    | none => false
  | .lock _ a, s => ceS N sc a s
  | .ext F l, s => match F.mat N sc s with
    | some es => ceL N l sc es
    | none => false
  | .brk, s => match s with
    | .Break _ => true
    | _ => false
  | .cont, s => match s with
    | .Continue _ => true
    | _ => false
  | .pass, s => match s with
    | .Pass _ => true
    | _ => false
  | _, _ => false
def ceSs (N : List Str) (sc : Scope) : St → List Stmt → Bool
  | .nil, ss => match ss with
    | [] => true
    | _ => false
  | .cons s r, ss => match ss with
    | x :: ss => ceS N sc s x && ceSs N sc r ss
    | [] => false
  | _, _ => false
end
def LkS (K : PySem.W.Frag) (mg : Str → Option Value) (F : Str → Fn → Prop) (G : FO) : St → Prop
  | .ext f l => G.s f ∧ Lk K mg F G l
  | .cons s r => LkS K mg F G s ∧ LkS K mg F G r
  | .asg _ e => Lk K mg F G e
  | .aug _ _ e => Lk K mg F G e
  | .set a i e => Lk K mg F G a ∧ Lk K mg F G i ∧ Lk K mg F G e
  | .ex e => Lk K mg F G e
  | .ret e => Lk K mg F G e
  | .ifs c a b => Lk K mg F G c ∧ LkS K mg F G a ∧ LkS K mg F G b
  | .whl c b => Lk K mg F G c ∧ LkS K mg F G b
  | .for _ it b => Lk K mg F G it ∧ LkS K mg F G b
  | .lock _ s => LkS K mg F G s
  | .tr f s => G.t f ∧ LkS K mg F G s
  | _ => True

section
variable {K : PySem.W.Frag} {W : Wd} {σ : L2.St} {H : Hp}
theorem _root_.L2.PS.w {X : Cx} {e : Stmt} {t t' : TS} (h : PS X e t) (f : ∀ D σ H, t' D σ H → t D σ H) : PS X e t' := ⟨fun pins s σ H D I q => h.run pins s σ H D I (f _ _ _ q)⟩
theorem _root_.L2.PSs.w {X : Cx} {e : List Stmt} {t t' : TS} (h : PSs X e t) (f : ∀ D σ H, t' D σ H → t D σ H) : PSs X e t' := ⟨fun pins s σ H D I q => h.run pins s σ H D I (f _ _ _ q)⟩
theorem PostS.no {Wx : WX} {D : Ends} (h : PostS K Wx W .no D) : False := h
/-- a value, then what is done with it -/
theorem T.st {Wx : WX} {m : Ev → Store → Out AV} {f : AV → Store → OS} {ρ : Ev} {S : Store} {D : Ends} {Q' : VK} (s : Stt K W ρ S σ H) (h : PostS K Wx W ((m ρ S).st ρ f) D)
    (k : ∀ a S1 W1 x, Le W W1 → Stt K W1 ρ S1 σ W1.H → RV K W1 a x → PostS K Wx W1 (f a S1) D → Q' x W1.H) : T K m σ H Q' := by
  cases e : m ρ S with
  | ok a S1 =>
    rw [e] at h
    exact ⟨W, ρ, S, s, a, S1, e, fun W1 x L1 R1 r1 => k a S1 W1 x L1 (s.next L1 R1) r1 (PostS.mono L1 h)⟩
  | ex c S1 => rw [e] at h; exact h.elim
  | no => rw [e] at h; exact h.elim
theorem T.tg {Wx : WX} {m : Ev → Store → Out AV} {t : Tg} {D : Ends} (h : TSt K Wx (fun ρ S => (m ρ S).st ρ fun a S1 => match tgD t a ρ with
    | some ρ1 => .nx ρ1 S1
    | none => .no) D σ H) : tAsg (T K m) (gOf K t) D σ H := by
  obtain ⟨W, ρ, S, s, P⟩ := h
  refine T.st s P fun a S1 W1 x L1 s1 ra P1 => ?_
  cases e : tgD t a ρ with
  | none => rw [e] at P1; exact P1.elim
  | some ρ1 =>
    rw [e] at P1
    exact gOf_ok t e ra s1.er fun σ' er' _ => P1 W1 σ' (Le.refl W1) s1.rep er'
/-- a test, then one of two -/
theorem TB.ifs {Wx : WX} {mc : Ev → Store → Out AV} {ma mb : Ev → Store → OS} {D : Ends} (h : TSt K Wx (fun ρ S => (truD (mc ρ S)).st ρ fun x S1 => match x with
    | .bl true => ma ρ S1
    | .bl false => mb ρ S1
    | _ => .no) D σ H) : tIfS (TB K fun ρ S => truD (mc ρ S)) (TSt K Wx ma) (TSt K Wx mb) D σ H := by
  obtain ⟨W, ρ, S, s, P⟩ := h
  dsimp only at P
  cases e : truD (mc ρ S) with
  | ok a S1 =>
    rw [e] at P
    cases a with
    | bl b =>
      refine ⟨W, ρ, S, s, b, S1, e, fun W1 L1 R1 => ?_⟩
      have P1 := PostS.mono L1 P
      dsimp only
      cases b with
      | true => rw [if_pos rfl]; exact ⟨W1, ρ, S1, s.next L1 R1, P1⟩
      | false => rw [if_neg (by decide)]; exact ⟨W1, ρ, S1, s.next L1 R1, P1⟩
    | _ => exact P.elim
  | ex c S1 => rw [e] at P; exact P.elim
  | no => rw [e] at P; exact P.elim
/-- .. with what stands for the next turns left open -/
def whlT (c : Ev → Store → Out AV) (b : Ev → Store → OS) (f : Ev → Store → OS) (ρ : Ev) (S : Store) : OS := match c ρ S with
    | .ok (.bl true) S1 => match b ρ S1 with
      | .nx ρ2 S2 => f ρ2 S2
      | .ct ρ2 S2 => f ρ2 S2
      | .bk ρ2 S2 => .nx ρ2 S2
      | o => o
    | .ok (.bl false) S1 => .nx ρ S1
    | _ => .no
theorem whlN_succ (c : Ev → Store → Out AV) (b : Ev → Store → OS) (n : Nat) (ρ : Ev) (S : Store) : whlN c b (n + 1) ρ S = whlT c b (whlN c b n) ρ S := rfl
theorem whlT_eq {c : Ev → Store → Out AV} {b : Ev → Store → OS} {f g : Ev → Store → OS} {ρ : Ev} {S : Store} (h : whlT c b f ρ S ≠ .no) (k : ∀ ρ S, f ρ S ≠ .no → g ρ S = f ρ S) : whlT c b g ρ S = whlT c b f ρ S := by
  unfold whlT at h ⊢
  cases e : c ρ S with
  | ok a S1 =>
    rw [e] at h
    cases a with
    | bl t =>
      cases t with
      | true =>
        dsimp only at h ⊢
        cases e2 : b ρ S1 with
        | nx ρ2 S2 => rw [e2] at h; exact k _ _ h
        | ct ρ2 S2 => rw [e2] at h; exact k _ _ h
        | _ => rfl
      | false => rfl
    | _ => rfl
  | _ => rfl
theorem whlT_no {c : Ev → Store → Out AV} {b : Ev → Store → OS} {f : Ev → Store → OS} {ρ : Ev} {S : Store} (h : whlT c b f ρ S = .no) (g : Ev → Store → OS) (k : ∀ ρ2 S2, (∃ S1, c ρ S = .ok (.bl true) S1 ∧ (b ρ S1 = .nx ρ2 S2 ∨ b ρ S1 = .ct ρ2 S2)) → g ρ2 S2 = .no) : whlT c b g ρ S = .no := by
  unfold whlT at h ⊢
  cases e : c ρ S with
  | ok a S1 =>
    rw [e] at h
    cases a with
    | bl t =>
      cases t with
      | true =>
        dsimp only at h ⊢
        cases e2 : b ρ S1 with
        | nx ρ2 S2 => exact k _ _ ⟨S1, e, .inl e2⟩
        | ct ρ2 S2 => exact k _ _ ⟨S1, e, .inr e2⟩
        | _ => first | rfl | (rw [e2] at h; exact h)
      | false => first | rfl | exact h
    | _ => first | rfl | exact h
  | _ => first | rfl | (rw [e] at h; exact h)
theorem whlN_le {c : Ev → Store → Out AV} {b : Ev → Store → OS} : ∀ {n : Nat} {ρ : Ev} {S : Store}, whlN c b n ρ S ≠ .no → whlN c b (n + 1) ρ S = whlN c b n ρ S := by
  intro n
  induction n with
  | zero => intro ρ S h; exact absurd rfl h
  | succ n ih =>
    intro ρ S h
    rw [whlN_succ c b (n + 1), whlN_succ c b n]
    rw [whlN_succ] at h
    exact whlT_eq h fun ρ S k => ih k
theorem whlN_mono {c : Ev → Store → Out AV} {b : Ev → Store → OS} {n m : Nat} {ρ : Ev} {S : Store} (h : whlN c b n ρ S ≠ .no) (hm : n ≤ m) : whlN c b m ρ S = whlN c b n ρ S := by
  induction m with
  | zero => have : n = 0 := by omega
            subst this; rfl
  | succ m ih =>
    by_cases hn : n = m + 1
    · subst hn; rfl
    · have e := ih (by omega)
      rw [whlN_le (by rw [e]; exact h), e]
theorem whlD_eq {c : Ev → Store → Out AV} {b : Ev → Store → OS} {n : Nat} {ρ : Ev} {S : Store} (h : whlN c b n ρ S ≠ .no) : whlD c b ρ S = whlN c b n ρ S := by
  have hx : ∃ n, whlN c b n ρ S ≠ .no := ⟨n, h⟩
  unfold whlD
  rw [dif_pos hx]
  have h2 := Classical.choose_spec hx
  rcases Nat.le_total n (Classical.choose hx) with hle | hle
  · exact whlN_mono h hle
  · exact (whlN_mono h2 hle).symm
/-- one turn -/
theorem whlD_step (c : Ev → Store → Out AV) (b : Ev → Store → OS) (ρ : Ev) (S : Store) : whlD c b ρ S = whlT c b (whlD c b) ρ S := by
  by_cases hx : ∃ n, whlN c b n ρ S ≠ .no
  · obtain ⟨n, hn⟩ := hx
    rw [whlD_eq hn]
    cases n with
    | zero => exact absurd rfl hn
    | succ n =>
      rw [whlN_succ] at hn ⊢
      exact (whlT_eq hn fun ρ S k => whlD_eq k).symm
  · have h0 : whlD c b ρ S = .no := by unfold whlD; rw [dif_neg hx]
    rw [h0]
    have hn : ∀ n, whlN c b n ρ S = .no := fun n => Classical.byContradiction fun h => hx ⟨n, h⟩
    have h1 := hn 1
    rw [whlN_succ] at h1
    refine (whlT_no h1 _ fun ρ2 S2 ⟨S1, e, hb⟩ => ?_).symm
    unfold whlD
    rw [dif_neg]
    rintro ⟨n, h⟩
    have := hn (n + 1)
    rw [whlN_succ] at this
    unfold whlT at this
    rw [e] at this
    dsimp only at this
    rcases hb with hb | hb <;> (rw [hb] at this; exact h this)
theorem T.whl {Wx : WX} {mc : Ev → Store → Out AV} {mb : Ev → Store → OS} {D : Ends} (h : TSt K Wx (fun ρ S => whlD (fun ρ S => truD (mc ρ S)) mb ρ S) D σ H) : tWhile (TB K fun ρ S => truD (mc ρ S)) (TSt K Wx mb) D σ H := by
  obtain ⟨W, ρ, S, s, P⟩ := h
  dsimp only at P
  -- how many turns
  have hx : ∃ n, whlN (fun ρ S => truD (mc ρ S)) mb n ρ S ≠ .no := Classical.byContradiction fun hx => by
    unfold whlD at P
    rw [dif_neg hx] at P
    exact P.elim
  obtain ⟨n, hn⟩ := hx
  rw [whlD_eq hn] at P
  refine ⟨fun n σ H => ∃ W ρ S, Stt K W ρ S σ H ∧ PostS K Wx W (whlN (fun ρ S => truD (mc ρ S)) mb n ρ S) D, ⟨n, W, ρ, S, s, P⟩, ?_⟩
  rintro n σ H ⟨W, ρ, S, s, P⟩
  cases n with
  | zero => exact P.elim
  | succ n =>
    rw [whlN_succ] at P
    unfold whlT at P
    dsimp only at P
    cases e : truD (mc ρ S) with
    | ok a S1 =>
      rw [e] at P
      cases a with
      | bl b =>
        refine ⟨W, ρ, S, s, b, S1, e, fun W1 L1 R1 => ?_⟩
        dsimp only
        cases b with
        | true =>
          dsimp only at P
          rw [if_pos rfl]
          refine ⟨fun σ H => ∃ W ρ S, Stt K W ρ S σ H ∧ PostS K Wx W (whlN (fun ρ S => truD (mc ρ S)) mb n ρ S) D, fun σ' H' q => ⟨n, Nat.lt_succ_self n, q⟩, W1, ρ, S1, s.next L1 R1, ?_⟩
          cases e2 : mb ρ S1 with
          | nx ρ2 S2 => rw [e2] at P; exact fun W2 σ2 L2 R2 er2 => ⟨W2, ρ2, S2, ⟨rfl, R2, er2⟩, PostS.mono (L1.trans L2) P⟩
          | ct ρ2 S2 => rw [e2] at P; exact fun W2 σ2 L2 R2 er2 => ⟨W2, ρ2, S2, ⟨rfl, R2, er2⟩, PostS.mono (L1.trans L2) P⟩
          | bk ρ2 S2 => rw [e2] at P; exact fun W2 σ2 L2 R2 er2 => P W2 σ2 (L1.trans L2) R2 er2
          | rt a S2 => rw [e2] at P; exact fun W2 x L2 R2 r2 => P W2 x (L1.trans L2) R2 r2
          | ex c ρ2 S2 => rw [e2] at P; exact fun W2 σ2 cls d L2 => P W2 σ2 cls d (L1.trans L2)
          | no => rw [e2] at P; exact P.elim
        | false =>
          dsimp only at P
          rw [if_neg (by decide)]
          exact P W1 σ L1 R1 (s.er.mono L1)
      | _ => exact P.elim
    | ex c S1 => rw [e] at P; exact P.elim
    | no => rw [e] at P; exact P.elim
theorem forD_guard {Wx : WX} {t : Tg} {b : Ev → Store → OS} {gs : List (Nat × List AV)} {its : List AV} {ρ : Ev} {S : Store} {D : Ends} (h : PostS K Wx W (forD t b gs its ρ S) D) : Gd gs S := by
  cases its with
  | nil =>
    unfold forD at h
    split at h
    · assumption
    · exact h.elim
  | cons a r =>
    unfold forD at h
    split at h
    · assumption
    · exact h.elim
theorem T.for {Wx : WX} {t : Tg} {mi : Ev → Store → Out (List AV × List (Nat × List AV))} {mb : Ev → Store → OS} {D : Ends} (h : TSt K Wx (fun ρ S => match mi ρ S with
    | .ok w S1 => forD t mb w.2 w.1 ρ S1
    | _ => .no) D σ H) : tFor (TIt K mi) (gOf K t) (TSt K Wx mb) D σ H := by
  obtain ⟨W, ρ, S, s, P⟩ := h
  dsimp only at P
  cases e : mi ρ S with
  | ok w S1 =>
    rw [e] at P
    dsimp only at P
    refine ⟨W, ρ, S, s, w, S1, e, fun W1 J L1 R1 wk => ?_⟩
    obtain ⟨G, Y, walk, hG, hY⟩ := wk
    refine for_it walk (D := D) (fun i σ H => ∃ W2 ρ2 S2, Stt K W2 ρ2 S2 σ H ∧ Le W1 W2 ∧ PostS K Wx W2 (forD t mb w.2 (w.1.drop i) ρ2 S2) D) ⟨W1, ρ, S1, s.next L1 R1, Le.refl W1, by rw [List.drop_zero]; exact PostS.mono L1 P⟩ ?_ ?_ ?_
    · rintro i σ H hi ⟨W2, ρ2, S2, s2, L2, P2⟩
      rw [← s2.hH]
      exact hG W2 S2 L2.lw s2.rep (forD_guard P2)
    · rintro i x σ H H' hi ⟨W2, ρ2, S2, s2, L2, P2⟩ hy
      have gd := forD_guard P2
      rw [← s2.hH] at hy
      obtain ⟨W3, a, rfl, L3, R3, ha, rx⟩ := hY W2 S2 i x H' L2.lw s2.rep gd hy
      have hdr : w.1.drop i = a :: w.1.drop (i + 1) := by
        obtain ⟨h1, h2⟩ := List.getElem?_eq_some_iff.mp ha
        rw [List.drop_eq_getElem_cons h1, h2]
      rw [hdr] at P2
      unfold forD at P2
      rw [if_pos gd] at P2
      cases e2 : tgD t a ρ2 with
      | none => rw [e2] at P2; exact P2.elim
      | some ρ3 =>
        rw [e2] at P2
        dsimp only at P2
        refine gOf_ok t e2 rx (s2.er.mono L3) fun σ' er' _ => ⟨W3, ρ3, S2, ⟨rfl, R3, er'⟩, ?_⟩
        have P3 := PostS.mono L3 P2
        cases e3 : mb ρ3 S2 with
        | nx ρ4 S4 => rw [e3] at P3; exact fun W4 σ4 L4 R4 er4 => ⟨W4, ρ4, S4, ⟨rfl, R4, er4⟩, (L2.trans L3).trans L4, PostS.mono L4 P3⟩
        | ct ρ4 S4 => rw [e3] at P3; exact fun W4 σ4 L4 R4 er4 => ⟨W4, ρ4, S4, ⟨rfl, R4, er4⟩, (L2.trans L3).trans L4, PostS.mono L4 P3⟩
        | bk ρ4 S4 => rw [e3] at P3; exact P3
        | rt a S4 => rw [e3] at P3; exact P3
        | ex c ρ4 S4 => rw [e3] at P3; exact P3
        | no => rw [e3] at P3; exact P3.elim
    · rintro σ H ⟨W2, ρ2, S2, s2, L2, P2⟩
      have gd := forD_guard P2
      rw [List.drop_eq_nil_of_le (Nat.le_refl _)] at P2
      unfold forD at P2
      rw [if_pos gd] at P2
      rw [← s2.hH]
      exact P2 W2 σ (Le.refl W2) s2.rep s2.er
  | ex c S1 => rw [e] at P; exact P.elim
  | no => rw [e] at P; exact P.elim
end

/-! stores -/
section
variable {X : Cx}
/-- o[i] = v -/
theorem set_V (hu : X.A.units + 1 < cLine) : PSet X (fun o i v H Q => ∃ W S a b c, W.H = H ∧ Rep X.K W S ∧ RV X.K W a o ∧ RV X.K W b i ∧ RV X.K W c v ∧ ∃ S', setD a b c S = some S' ∧ ∀ W', Le W W' → Rep X.K W' S' → Q W'.H) := by
  rintro pins s σ H o i v ov iv u Q I ro ri rv ⟨W, S, a, b, c, rfl, R, ra, rb, rc, S', e, P⟩
  have dic : ∀ {p : Nat} {l : List (Key × AV)} {k : Key}, a = .loc p → S[p]? = some (.dct false l) → keyOf b = some k → l.length < sizeLine → S' = S.set p (.dct false (putA k c l)) →
      wpAny (model X.prog X.w) X.A (setItem ov iv u) (fun _ s' => ∃ H', Inv X pins σ H' s' ∧ Q H') X.xe s := by
    rintro p l k rfl e1 e2 hz rfl
    have ei := keyOf_ok e2 rb
    subst ei
    cases ra with
    | loc hi =>
      obtain ⟨xs, h1, rk⟩ := R.obj p _ e1
      obtain rfl : ov = Value.ref (W.φ p) := ro
      refine d_setItem hu I (DPut.k (k := k) (v := v) h1 (by rw [← rk.len]; exact hz)) ri rv fun s4 I4 => ⟨_, I4, ?_⟩
      exact P (W.lay (W.φ p) (.dK (putK xs k v))) (Le.wr R hi (R.nlk e1 rfl)) (R.wr hi (R.nlk e1 rfl) ⟨_, upd_same, (rk.mw (Le.wr R hi (R.nlk e1 rfl)).lw).put k (rc.mono (Le.wr R hi (R.nlk e1 rfl)))⟩)
  cases a with
  | loc p =>
    cases b with
    | int k =>
      simp only [setD] at e
      cases e1 : S[p]? with
      | none => simp [e1] at e
      | some ob =>
        cases ob with
        | lst l =>
          simp only [e1] at e
          cases e2 : ixN l.length k with
          | none => simp [e2] at e
          | some j =>
            simp only [e2] at e
            cases e
            cases ra with
            | loc hi =>
              cases rb
              obtain ⟨xs, h1, r1⟩ := R.obj p _ e1
              refine set_list pins s σ W.H _ _ v ov iv u Q I ro ri rv ⟨W.φ p, xs, k, j, rfl, rfl, h1, by rw [← r1.len]; exact e2, ?_⟩
              exact P (W.lay (W.φ p) (.lst (xs.set j v))) (Le.wr R hi (R.nlk e1 rfl)) (R.wr hi (R.nlk e1 rfl) ⟨_, upd_same, (r1.mono (Le.wr R hi (R.nlk e1 rfl))).set j (rc.mono (Le.wr R hi (R.nlk e1 rfl)))⟩)
        | dct lk l =>
          cases lk with
          | true => simp [e1] at e
          | false =>
            simp only [e1] at e
            split at e
            · rename_i hz
              exact dic rfl e1 rfl hz (Option.some.inj e).symm
            · cases e
        | _ => simp [e1] at e
    | str k =>
      simp only [setD] at e
      cases e1 : S[p]? with
      | none => simp [e1] at e
      | some ob =>
        cases ob with
        | dct lk l =>
          cases lk with
          | true => simp [e1] at e
          | false =>
            simp only [e1] at e
            split at e
            · rename_i hz
              exact dic rfl e1 rfl hz (Option.some.inj e).symm
            · cases e
        | _ => simp [e1] at e
    | tup ks =>
      simp only [setD] at e
      cases e1 : S[p]? with
      | none => simp [e1] at e
      | some ob =>
        cases ob with
        | dcT lk l =>
          cases lk with
          | true => simp [e1] at e
          | false =>
            cases e2 : keysOf (.tup ks) with
            | none => simp [e1, e2] at e
            | some k =>
              simp only [e1, e2] at e
              split at e
              · rename_i hz
                cases e
                cases rb with
                | tup h2 s2 r2 =>
                  have ek := keysOf_ok' (l := ks) e2 r2
                  subst ek
                  cases ra with
                  | loc hi =>
                    obtain ⟨xs, h1, rk⟩ := R.obj p _ e1
                    obtain rfl : ov = Value.ref (W.φ p) := ro
                    refine d_setItem hu I (DPut.t (k := k) (v := v) h1 h2 (by rw [← rk.len]; exact hz)) ri rv fun s4 I4 => ⟨_, I4, ?_⟩
                    exact P (W.lay (W.φ p) (.dT (putK xs k v))) (Le.wr R hi (R.nlk e1 rfl)) (R.wr hi (R.nlk e1 rfl) ⟨_, upd_same, (rk.mw (Le.wr R hi (R.nlk e1 rfl)).lw).put k (rc.mono (Le.wr R hi (R.nlk e1 rfl)))⟩)
              · cases e
        | _ => simp [e1] at e
    | _ => cases e
  | _ => cases e
end
end VI

set_option maxRecDepth 100000
set_option maxHeartbeats 2000000
/-! VI11: every statement does what its twin does; a def; a law. -/
namespace VI
open PySem PySem.Spec PyProof.Rows L2 RZ

section
variable {P : Program} {w : World} {K : PySem.W.Frag} {mg : Str → Option Value} {base : Heap} {k : Nat} {N : List Str}
theorem ce_lc {a : E} {sc : Scope} {elt : Expr} {gs : List Comprehension} {scope : Scope} {p : Pos} (h : ce N a sc (.ListComp elt gs scope p) = true) : ∃ m own t it e cd, a = .comp m own t it e cd := by
  cases a <;> first | exact ⟨_, _, _, _, _, _, rfl⟩ | cases h
theorem not_lc {a : E} {sc : Scope} {e : Expr} (h : ce N a sc e = true) (hl : isLc e = true) : ∃ elt gs scope p, e = .ListComp elt gs scope p := by
  cases e <;> first | exact ⟨_, _, _, _, rfl⟩ | (cases hl; done) | (cases a <;> cases h)
theorem sw_no {e : Expr} (h : isLc e = false) (t : Option Expr) (l : Nat) (env : Env) : swapsWith e t l env = pure false := by
  cases e <;> first | rfl | cases h
theorem tup_no {tg e : Expr} (h : isTupE e = false) (env : Env) : swappedStores [tg] e env = pure none := by
  unfold swappedStores
  cases e <;> first | (cases h; done) | (cases tg <;> rfl)
theorem sub_no {o i e : Expr} {p : Pos} (env : Env) (l : Nat) : swapsWithSole [.Subscript o i p] e l env = pure false ∧ swappedStores [.Subscript o i p] e env = pure none := by
  refine ⟨?_, ?_⟩
  · unfold swapsWithSole swapsWith
    cases e <;> rfl
  · unfold swappedStores
    cases e <;> rfl
theorem asg_sub {o i : Expr} {p : Pos} {env : Env} (h : odd i = false) : ∀ v, assign (.Subscript o i p) env v = (do
      let ov ← holding [v] (eval o env)
      let iv ← holding [v, ov] (eval i env)
      standAt p
      holding [v, ov, iv] (setItem ov iv v)
      release [v, ov, iv] []) := by
  intro v
  cases i <;> first | rfl | cases h
section
variable {K : PySem.W.Frag} {W : Wd}
/-- the same, what is walked put otherwise -/
def Wd.relk (W : Wd) (q : Addr → Prop) : Wd := { W with lkd := q }
mutual
theorem RV.relk {q : Addr → Prop} : ∀ {a : AV} {x : V}, RV K W a x → RV K (W.relk q) a x
  | _, _, .non => .non
  | _, _, .bl b => .bl b
  | _, _, .int i => .int i
  | _, _, .str x => .str x
  | _, _, .ty n => .ty n
  | _, _, .tup h s r => .tup (W := W.relk q) h s (RVs.relk r)
  | _, _, .ktup h r => .ktup (W := W.relk q) h (RVs.relk r)
  | _, _, .ftup h e s r => .ftup (W := W.relk q) h e s (RVs.relk r)
  | _, _, .lst h s r => .lst (W := W.relk q) h s (RVs.relk r)
  | _, _, .loc h => .loc (W := W.relk q) h
  | _, _, .scr h s => .scr (W := W.relk q) h s
  | _, _, .scl h s => .scl (W := W.relk q) h s
  | _, _, .kscr h => .kscr (W := W.relk q) h
theorem RVs.relk {q : Addr → Prop} : ∀ {l : List AV} {xs : List V}, RVs K W l xs → RVs K (W.relk q) l xs
  | _, _, .nil => .nil
  | _, _, .cons h r => .cons (RV.relk h) (RVs.relk r)
end
theorem RO.relk {q : Addr → Prop} {a : Addr} {o : AObj} (h : RO K W a o) (hq : W.lkd a → q a) : RO K (W.relk q) a o := by
  cases o with
  | lst l => obtain ⟨xs, e, r⟩ := h; exact ⟨xs, e, r.relk⟩
  | dct b l => cases b with
    | false => obtain ⟨xs, e, r⟩ := h; exact ⟨xs, e, r.1, r.2.relk⟩
    | true => obtain ⟨z, xs, o, e, r⟩ := h; exact ⟨hq z, xs, o, e, r.1, r.2.relk⟩
  | dcT b l => cases b with
    | false => obtain ⟨xs, e, r⟩ := h; exact ⟨xs, e, r.1, r.2.relk⟩
    | true => obtain ⟨z, xs, o, e, r⟩ := h; exact ⟨hq z, xs, o, e, r.1, r.2.relk⟩
  | ins c f => obtain ⟨C, dx, xs, e, m, r⟩ := h; exact ⟨C, dx, xs, e, m, r.1, r.2.relk⟩
  | tab x => exact h
theorem ER.relk {q : Addr → Prop} {ρ : Ev} {σ : L2.St} (h : ER K W ρ σ) : ER K (W.relk q) ρ σ := ⟨h.len, fun i a e => let ⟨x, h1, h2⟩ := h.at_ i a e; ⟨x, h1, h2.relk⟩⟩
/-- an exception's wish while a dict is walked -/
def WxL (d : Addr) (od : Obj) (u : HO) (Wx : WX) : WX := fun cls dd σ H => H d = some (.frz od u) ∧ Wx cls dd σ (upd H d u)
theorem takes_lock {X : Cx} {d : Addr} {od : Obj} {u : HO} {Wx : WX} (tk : L2N.Takes X Wx) (hn : ∀ o' u', X.H_0 d ≠ some (.frz o' u')) : L2N.Takes X (WxL d od u Wx) := by
  rintro e s' ⟨a, B, sI, pins, σ, H, cls, dd, he, I, nb, up, sky, na, os, ag, w1, w2⟩
  have ne : a ≠ d := fun z => by rw [z, w1] at na; cases na
  exact tk e s' ⟨a, B, sI, pins, σ, upd H d u, cls, dd, he, I.unlock w1 hn, nb, up, sky, by rw [upd_ne ne]; exact na, os, ag, w2⟩
def tLockX (t : Addr → Obj → HO → TS) : TS := fun D σ H => ∃ d u, H d = some u ∧ Mut (some u) ∧ ∀ od, t d od u ⟨fun σ' H' => H' d = some (.frz od u) ∧ D.nx σ' (upd H' d u), fun v H' => H' d = some (.frz od u) ∧ D.rt v (upd H' d u), fun σ' H' => H' d = some (.frz od u) ∧ D.bk σ' (upd H' d u), fun σ' H' => H' d = some (.frz od u) ∧ D.ct σ' (upd H' d u)⟩ σ (upd H d (.frz od u))
theorem ps_lockX {X : Cx} {st : Stmt} {t : Addr → Obj → HO → TS} (h : ∀ d od u, (∀ o' u', X.H_0 d ≠ some (.frz o' u')) → PS X st (t d od u)) : PS X st (tLockX t) := by
  refine ⟨fun pins s σ H D I hw => ?_⟩
  obtain ⟨d, u, hd, mu, hw⟩ := hw
  obtain ⟨od, I1⟩ := I.lock hd mu
  have nf := I.nofrz hd mu
  refine thn ((h d od u nf).run pins s σ _ _ I1 (hw od)) fun f s1 q => ?_
  rcases f with _ | _ | _ | v
  all_goals first
    | (obtain ⟨x, σ', H', I2, r, e, q⟩ := q; exact ⟨x, σ', _, I2.unlock e nf, r, q⟩)
    | (obtain ⟨σ', H', I2, e, q⟩ := q; exact ⟨σ', _, I2.unlock e nf, q⟩)
theorem TSt.lock {Wx : WX} {f : Ev → Store → Option Nat} {mb : Ev → Store → OS} {D : Ends} {σ : L2.St} {H : Hp} (h : TSt K Wx (fun ρ S => match f ρ S with
    | some i => match S[i]? with
      | some (.dct false l) => unlk i (mb ρ (S.set i (.dct true l)))
      | _ => .no
    | none => .no) D σ H) : tLockX (fun d od u => TSt K (WxL d od u Wx) mb) D σ H := by
  obtain ⟨W, ρ, S, st, P⟩ := h
  dsimp only at P
  split at P
  · rename_i i _
    split at P
    · rename_i l e
      have hi : i < W.n := by rw [← st.rep.len]; exact (List.getElem?_eq_some_iff.mp e).1
      obtain ⟨xs, h1, rk⟩ := st.rep.obj i _ e
      have hn := st.rep.nlk e rfl
      refine ⟨W.φ i, .dK xs, by rw [← st.hH]; exact h1, trivial, fun od => ?_⟩
      have La : Le W (W.lay (W.φ i) (.frz od (.dK xs))) := Le.wr st.rep hi hn
      -- while it is walked
      let q : Addr → Prop := fun a => W.lkd a ∨ a = W.φ i
      let W2 : Wd := (W.lay (W.φ i) (.frz od (.dK xs))).relk q
      have R2 : Rep K W2 (S.set i (.dct true l)) := by
        refine ⟨by rw [List.length_set]; exact st.rep.len, st.rep.inj, fun a z => ⟨?_, (st.rep.hid a z).2⟩, fun j u ej => ?_, fun a z => ?_⟩
        · obtain ⟨⟨u, eu⟩, h2⟩ := st.rep.hid a z
          exact ⟨u, by show upd W.H _ _ a = _; rw [upd_ne (h2 i hi).symm]; exact eu⟩
        · by_cases hj : j = i
          · subst hj
            rw [List.getElem?_set_self (by rw [st.rep.len]; exact hi)] at ej
            cases ej
            exact ⟨.inr rfl, xs, od, upd_same, rk.1, (rk.2.mw La.lw).relk⟩
          · rw [List.getElem?_set_ne (Ne.symm hj)] at ej
            have hj' : j < W.n := by rw [← st.rep.len]; exact (List.getElem?_eq_some_iff.mp ej).1
            have r := (st.rep.obj j u ej).mono La (by show upd W.H _ _ (W.φ j) = _; rw [upd_ne (fun z => hj (st.rep.inj j i hj' hi z))])
            exact r.relk (q := q) fun z => .inl z
        · rcases z with z | rfl
          · obtain ⟨j, u, e1, e2, e3⟩ := st.rep.lk a z
            refine ⟨j, u, ?_, e2, e3⟩
            rw [List.getElem?_set_ne]
            · exact e1
            · rintro rfl; exact hn (by rw [e2]; exact z)
          · exact ⟨i, _, by rw [List.getElem?_set_self (by rw [st.rep.len]; exact hi)], rfl, rfl⟩
      have st2 : Stt K W2 ρ (S.set i (.dct true l)) σ (upd H (W.φ i) (.frz od (.dK xs))) := ⟨by rw [← st.hH]; rfl, R2, (st.er.mono La).relk⟩
      -- and behind
      have back : ∀ (W3 : Wd) (S3 : Store) (m : List (Key × AV)), Le W2 W3 → Rep K W3 S3 → S3[i]? = some (.dct true m) → W3.H (W.φ i) = some (.frz od (.dK xs)) ∧ ∃ W4 : Wd, W4.H = upd W3.H (W.φ i) (.dK xs) ∧ Le W W4 ∧ Rep K W4 (S3.set i (.dct false m)) ∧ (∀ a x, RV K W3 a x → RV K W4 a x) ∧ (∀ ρ σ, ER K W3 ρ σ → ER K W4 ρ σ) ∧ ∀ c cls dd, XR K W3 c cls dd → XR K W4 c cls dd := by
        intro W3 S3 m L3 R3 e3
        have eφ : W3.φ i = W.φ i := L3.φ i hi
        have hi3 : i < W3.n := Nat.lt_of_lt_of_le hi L3.n
        have hd : W3.H (W.φ i) = some (.frz od (.dK xs)) := L3.ll _ _ (.inr rfl) upd_same
        obtain ⟨z, ys, o', f1, f2⟩ := R3.obj i _ e3
        rw [eφ, hd] at f1
        cases f1
        have q3 : ∀ a, W3.lkd a ↔ q a := fun a => by rw [L3.lk]; exact Iff.rfl
        -- a step that frees it
        have Lb : Lw (W3.relk fun a => W.lkd a) ((W3.relk fun a => W.lkd a).lay (W.φ i) (.dK xs)) := by
          refine ⟨Nat.le_refl _, fun _ _ => rfl, fun a u ea sa => ⟨?_, sa⟩, rfl, fun a u qa ea => ?_⟩
          · show upd W3.H _ _ a = _
            rw [upd_ne (fun z => sa.2 i hi3 (eφ.trans z.symm))]; exact ea
          · show upd W3.H _ _ a = _
            rw [upd_ne (fun z => hn (by rw [← z]; exact qa))]; exact ea
        refine ⟨hd, (W3.relk fun a => W.lkd a).lay (W.φ i) (.dK xs), rfl, ⟨L3.n, L3.φ, L3.hid, fun a u ea sa => ?_, fun a u qa ea => ?_, rfl, fun a u qa ea => ?_⟩, ?_, fun a x r => (r.relk (q := fun a => W.lkd a)).mw Lb, fun ρ σ r => (r.relk (q := fun a => W.lkd a)).mw Lb, fun c cls dd r => ?_⟩
        rotate_right
        · unfold XR at r ⊢
          split at r
          · exact r
          · obtain ⟨C, dx, h1, h2, h3, h4, h5⟩ := r
            obtain ⟨h6, h7⟩ := Lb.stb dx _ h4 h5
            exact ⟨C, dx, h1, h2, h3, h6, h7⟩
          · exact r
        · have ne : a ≠ W.φ i := fun z => sa.2 i hi z.symm
          obtain ⟨g1, g2⟩ := L3.stb a u (by show upd W.H _ _ a = _; rw [upd_ne ne]; exact ea) sa
          exact ⟨by show upd W3.H _ _ a = _; rw [upd_ne ne]; exact g1, g2⟩
        · have ne : a ≠ W.φ i := fun z => (st.rep.hid a qa).2 i hi z.symm
          show upd W3.H _ _ a = _
          rw [upd_ne ne]
          exact L3.hh a u qa (by show upd W.H _ _ a = _; rw [upd_ne ne]; exact ea)
        · have ne : a ≠ W.φ i := fun z => hn (by rw [← z]; exact qa)
          show upd W3.H _ _ a = _
          rw [upd_ne ne]
          exact L3.ll a u (.inl qa) (by show upd W.H _ _ a = _; rw [upd_ne ne]; exact ea)
        · refine ⟨by rw [List.length_set]; exact R3.len, R3.inj, fun a z => ⟨?_, (R3.hid a z).2⟩, fun j u ej => ?_, fun a z => ?_⟩
          · obtain ⟨⟨u, eu⟩, h2⟩ := R3.hid a z
            exact ⟨u, by show upd W3.H _ _ a = _; rw [upd_ne (fun y => h2 i hi3 (eφ.trans y.symm))]; exact eu⟩
          · by_cases hj : j = i
            · subst hj
              rw [List.getElem?_set_self (by rw [R3.len]; exact hi3)] at ej
              cases ej
              exact ⟨xs, by show upd W3.H _ _ (W3.φ j) = _; rw [eφ]; exact upd_same, f2.1, (f2.2.relk (q := fun a => W.lkd a)).mw Lb⟩
            · rw [List.getElem?_set_ne (Ne.symm hj)] at ej
              have hj' : j < W3.n := by rw [← R3.len]; exact (List.getElem?_eq_some_iff.mp ej).1
              have ne : W3.φ j ≠ W.φ i := fun z => hj (R3.inj j i hj' hi3 (z.trans eφ.symm))
              have r := (R3.obj j u ej).relk (q := fun a => W.lkd a) fun z => by
                rcases (q3 _).1 z with z | z
                · exact z
                · exact absurd z ne
              exact r.mw Lb (by show upd W3.H _ _ (W3.φ j) = W3.H (W3.φ j); rw [upd_ne ne])
          · obtain ⟨j, u, e1, e2, e3'⟩ := R3.lk a ((q3 a).2 (.inl z))
            refine ⟨j, u, ?_, e2, e3'⟩
            rw [List.getElem?_set_ne]
            · exact e1
            · rintro rfl; exact hn (by rw [← eφ, e2]; exact z)
      refine ⟨W2, ρ, S.set i (.dct true l), st2, ?_⟩
      cases em : mb ρ (S.set i (.dct true l)) with
      | nx ρ3 S3 =>
        rw [em] at P
        simp only [unlk] at P
        split at P
        · rename_i m e3
          intro W3 σ3 L3 R3 er
          obtain ⟨g1, W4, g2, g3, g4, _, g5, _⟩ := back W3 S3 m L3 R3 e3
          refine ⟨g1, ?_⟩
          rw [← g2]
          exact P W4 σ3 g3 g4 (g5 _ _ er)
        · exact P.elim
      | rt a S3 =>
        rw [em] at P
        simp only [unlk] at P
        split at P
        · rename_i m e3
          intro W3 x L3 R3 r
          obtain ⟨g1, W4, g2, g3, g4, g5, _, _⟩ := back W3 S3 m L3 R3 e3
          refine ⟨g1, ?_⟩
          rw [← g2]
          exact P W4 x g3 g4 (g5 _ _ r)
        · exact P.elim
      | bk ρ3 S3 => rw [em] at P; exact P.elim
      | ct ρ3 S3 => rw [em] at P; exact P.elim
      | ex c ρ3 S3 =>
        rw [em] at P
        simp only [unlk] at P
        split at P
        · rename_i m e3
          intro W3 σ3 cls dd L3 R3 er xr
          obtain ⟨g1, W4, g2, g3, g4, _, g5, g6⟩ := back W3 S3 m L3 R3 e3
          refine ⟨g1, ?_⟩
          rw [← g2]
          exact P W4 σ3 cls dd g3 g4 (g5 _ _ er) (g6 _ _ _ xr)
        · exact P.elim
      | no => rw [em] at P; exact P.elim
    · exact P.elim
  · exact P.elim
end
structure OkS (P : Program) (w : World) (K : PySem.W.Frag) (mg : Str → Option Value) (base : Heap) (k : Nat) (N : List Str) (a : St) : Prop where
  one : ∀ {Wx : WX} X sc s, GS P w K mg base k N Wx X sc → LkS K mg (Fx P w K mg base k) (Go P w K mg base k) a → ceS N sc a s = true → PS X s (TSt K Wx (denS a))
  all : ∀ {Wx : WX} X sc s, GS P w K mg base k N Wx X sc → LkS K mg (Fx P w K mg base k) (Go P w K mg base k) a → ceSs N sc a s = true → PSs X s (TSt K Wx (denS a))
theorem Stt.nx {Wx : WX} {W : Wd} {ρ : Ev} {S : Store} {σ : L2.St} {H : Hp} {D : Ends} (s : Stt K W ρ S σ H) (h : PostS K Wx W (.nx ρ S) D) : D.nx σ H := by
  have := h W σ (Le.refl W) s.rep s.er
  rw [s.hH] at this
  exact this
theorem okS : ∀ a : St, OkS P w K mg base k N a := by
  intro a
  induction a with
  | nil =>
    refine ⟨fun _ _ _ _ _ h => (by cases h), @fun Wx X sc s g l h => ?_⟩
    cases s with
    | nil => exact pss_nil.w fun D σ H ⟨W, ρ, S, s, q⟩ => s.nx q
    | cons _ _ => cases h
  | cons a r iha ihr =>
    refine ⟨fun _ _ _ _ _ h => (by cases h), @fun Wx X sc s g l h => ?_⟩
    cases s with
    | nil => cases h
    | cons x ss =>
      simp only [ceSs, Bool.and_eq_true] at h
      refine (pss_cons (iha.one X sc x g l.1 h.1) (ihr.all X sc ss g l.2 h.2)).w fun D σ H ⟨W, ρ, S, s, q⟩ => ⟨W, ρ, S, s, ?_⟩
      have q : PostS K Wx W (match denS a ρ S with
        | .nx ρ1 S1 => denS r ρ1 S1
        | o => o) D := q
      cases e : denS a ρ S with
      | nx ρ1 S1 => rw [e] at q; exact fun W1 σ1 L1 R1 er1 => ⟨W1, ρ1, S1, ⟨rfl, R1, er1⟩, PostS.mono L1 q⟩
      | _ => rw [e] at q; exact q
  | opq => exact ⟨@fun Wx X sc s g l h => ⟨fun pins s1 σ H D I ⟨W, ρ, S, st, q⟩ => q.elim⟩, fun _ _ s _ _ h => (by cases s <;> cases h)⟩
  | ext F a =>
    refine ⟨@fun Wx X sc s g l h => ?_, fun _ _ s _ _ h => (by cases s <;> cases h)⟩
    have h : (match F.mat N sc s with
      | some es => ceL N a sc es
      | none => false) = true := h
    cases em : F.mat N sc s with
    | none => rw [em] at h; cases h
    | some es =>
      rw [em] at h
      exact l.1 N X sc _ s es _ g em ((okE a).fs X sc es g.toGE l.2 h)
  | asg t e =>
    refine ⟨@fun Wx X sc s g l h => ?_, fun _ _ s _ _ h => (by cases s <;> cases h)⟩
    have h' : ∃ tg v p, s = .Assign [tg] v p ∧ ceT N sc (fun _ => true) t tg = true ∧ ce N e sc v = true ∧ ((∃ x p', tg = .Name x p') ∨ (∃ es kk p', tg = .Tuple es kk p') ∧ isTupE v = false) := by
      simp only [ceS] at h
      split at h
      · split at h
        · simp only [Bool.and_eq_true] at h
          exact ⟨_, _, _, rfl, h.1, h.2, .inl ⟨_, _, rfl⟩⟩
        · simp only [Bool.and_eq_true, Bool.not_eq_true'] at h
          exact ⟨_, _, _, rfl, h.1.1, h.1.2, .inr ⟨⟨_, _, _, rfl⟩, h.2⟩⟩
        · cases h
      · cases h
    obtain ⟨tg, v, p, rfl, h1, h2, h3⟩ := h'
    have hfin : ∀ D σ H, TSt K Wx (denS (.asg t e)) D σ H → tAsg (T K (den e)) (gOf K t) D σ H := fun D σ H q => T.tg q
    have hpg : PG X tg (gOf K t) := by
      have hN := g.hN
      have hK := g.hK
      have q := pg_V (X := X) g.calm (by rw [hN]; exact g.nd) g.scope g.fn t tg (by rw [hN]; exact h1)
      rw [hK] at q
      exact q
    rcases h3 with ⟨x, p', rfl⟩ | ⟨⟨es, kk, p', rfl⟩, h3⟩
    · -- a name
      obtain ⟨i, rfl⟩ : ∃ i, t = .n i := by cases t <;> first | exact ⟨_, rfl⟩ | cases h1
      simp only [ceT, Bool.and_eq_true, decide_eq_true_eq] at h1
      have hN := g.hN
      have nd : X.N.Nodup := by rw [hN]; exact g.nd
      have hi : X.N[i]? = some x := by rw [hN]; exact h1.1
      obtain ⟨hx, hf⟩ := g.toGE.loc h1.2
      have hf' : X.fn x = true ∨ X.env.scope.names.lookup x = some .local := by rw [g.fn]; exact .inl rfl
      have plain : ∀ (hs : swapsWith v (some (.Name x p')) p.line X.env = pure false), PS X (.Assign [.Name x p'] v p) (TSt K Wx (denS (.asg (.n i) e))) := fun hs =>
        (ps_set nd hi hx ((okE e).val X sc v g.toGE l h2) hs hf').w hfin
      cases hl : isLc v with
      | false => exact plain (sw_no hl _ _ _)
      | true =>
        obtain ⟨elt, gs, scope, pp, rfl⟩ := not_lc h2 hl
        obtain ⟨m, own, t', it, e1, cd, rfl⟩ := ce_lc h2
        obtain ⟨elt', tg', iter, ifs, scope', pp', own', g', tt, eq, hc, _, kI, ok, kT, kC, kE, hs, hT⟩ := comp_pk (okE it) (okE e1) (okE cd) g.toGE l h2
        cases eq
        have e0 : swapsWith (.ListComp elt [⟨tg', iter, ifs, 0⟩] scope pp) (some (.Name x p')) p.line X.env = pure (X.env.blockKind == .function && X.env.kindOf x == some .local && p'.line == pp.line && !(scope.names.any fun (n, k) => n == x && (k == .local || k == .cell))) := rfl
        cases eb : (X.env.blockKind == .function && X.env.kindOf x == some .local && p'.line == pp.line && !(scope.names.any fun (n, k) => n == x && (k == .local || k == .cell))) with
        | false => exact plain (by rw [e0, eb])
        | true =>
          have hl : X.env.scope.names.lookup x = some .local := by
            simp only [Bool.and_eq_true] at eb
            exact beq_iff_eq.mp eb.1.1.2
          refine (ps_setLc (i := i) hc nd hi hl (by rw [e0, eb]) kI ok kT kC kE hs).w fun D σ H q => ?_
          have q2 := hfin D σ H q
          exact hT σ H _ q2
    · -- several
      exact (ps_asg ((okE e).val X sc v g.toGE l h2) hpg (by unfold swapsWithSole swapsWith; cases v <;> rfl) (tup_no h3 _) (by rfl)).w hfin
  | aug i o e =>
    refine ⟨@fun Wx X sc s g l h => ?_, fun _ _ s _ _ h => (by cases s <;> cases h)⟩
    have h' : ∃ x p1 op v p, s = .AugAssign (.Name x p1) op v p ∧ N[i]? = some x ∧ locB sc (fun _ => true) x = true ∧ op = opB o ∧ (o = .add ∨ o = .sub) ∧ ce N e sc v = true := by
      simp only [ceS] at h
      split at h
      · simp only [Bool.and_eq_true, Bool.or_eq_true, decide_eq_true_eq] at h
        exact ⟨_, _, _, _, _, rfl, h.1.1.1.1, h.1.1.1.2, h.1.1.2, h.1.2, h.2⟩
      · cases h
    obtain ⟨x, p1, op, v, p, rfl, h1, h2, rfl, h4, h5⟩ := h'
    have hN := g.hN
    have nd : X.N.Nodup := by rw [hN]; exact g.nd
    have hi : X.N[i]? = some x := by rw [hN]; exact h1
    obtain ⟨hx, hf⟩ := g.toGE.loc h2
    have hf' : X.fn x = true ∨ X.env.scope.names.lookup x = some .local := by rw [g.fn]; exact .inl rfl
    have he := (okE e).val X sc v g.toGE l h5
    have gen : ∀ {f : Int → Int → Int}, PIp X (opB o) (ipI f) → (∀ a b S, binD false o (.int a) (.int b) S = .ok (.int (f a b)) S) → PS X (.AugAssign (.Name x p1) (opB o) v p) (TSt K Wx (denS (.aug i o e))) := fun {f} hp hb =>
      (ps_aug nd hi hx he hp hf').w fun D σ H ⟨W, ρ, S, st, q⟩ => by
        have q : PostS K Wx W (match ρ[i]? with
          | some (some x) => (den e ρ S).st ρ fun y S1 => match x, y with
            | .int _, .int _ => (binD false o x y S1).st ρ fun z S2 => .nx (ρ.set i (some z)) S2
            | _, _ => .no
          | _ => .no) D := q
        cases e1 : ρ[i]? with
        | none => rw [e1] at q; exact q.elim
        | some u =>
          cases u with
          | none => rw [e1] at q; exact q.elim
          | some a =>
            rw [e1] at q
            dsimp only at q
            obtain ⟨y, h6, h7⟩ := st.er.at_ i a e1
            refine ⟨y, h6, T.st st q fun b S1 W1 z L1 s1 rb P1 => ?_⟩
            cases a with
            | int a =>
              cases b with
              | int b =>
                cases h7
                cases rb
                have P1 : PostS K Wx W1 ((binD false o (.int a) (.int b) S1).st ρ fun z S2 => .nx (ρ.set i (some z)) S2) D := P1
                rw [hb] at P1
                exact ⟨a, b, rfl, rfl, P1 W1 _ (Le.refl W1) s1.rep (s1.er.set i (.int _))⟩
              | _ => exact P1.elim
            | _ => exact P1.elim
    rcases h4 with rfl | rfl
    · exact gen ip_add fun _ _ _ => rfl
    · exact gen ip_sub fun _ _ _ => rfl
  | set a i e =>
    refine ⟨@fun Wx X sc s g l h => ?_, fun _ _ s _ _ h => (by cases s <;> cases h)⟩
    have h' : ∃ o k' p1 v p, s = .Assign [.Subscript o k' p1] v p ∧ ce N a sc o = true ∧ ce N i sc k' = true ∧ odd k' = false ∧ ce N e sc v = true := by
      simp only [ceS] at h
      split at h
      · simp only [Bool.and_eq_true, Bool.not_eq_true'] at h
        exact ⟨_, _, _, _, _, rfl, h.1.1.1, h.1.1.2, h.1.2, h.2⟩
      · cases h
    obtain ⟨o, k', p1, v, p, rfl, h1, h2, h3, h4⟩ := h'
    have k1 := (okE a).val X sc o g.toGE l.1 h1
    have k2 := (okE i).val X sc k' g.toGE l.2.1 h2
    have k3 := (okE e).val X sc v g.toGE l.2.2 h4
    have hu := g.toGE.hu
    have hK := g.hK
    obtain ⟨n1, n2⟩ := sub_no (o := o) (i := k') (p := p1) (e := v) X.env p.line
    refine (ps_asg k3 (pg_sub k1 k2 (set_V (by omega)) (asg_sub h3)) n1 n2 (by rfl)).w fun D σ H ⟨W, ρ, S, st, q⟩ => ?_
    rw [hK]
    refine T.st st q fun c S1 W1 z L1 s1 rc P1 => T.st s1 P1 fun x S2 W2 z2 L2 s2 rx P2 => T.st s2 P2 fun y S3 W3 z3 L3 s3 ry P3 => ?_
    cases e5 : setD x y c S3 with
    | none => rw [e5] at P3; exact P3.elim
    | some S4 =>
      rw [e5] at P3
      exact ⟨W3, S3, x, y, c, rfl, s3.rep, rx.mono L3, ry, (rc.mono L2).mono L3, S4, e5, fun W4 L4 R4 => P3 W4 σ L4 R4 (s3.er.mono L4)⟩
  | augS o a i e => exact ⟨fun _ _ s _ _ h => (by cases s <;> cases h), fun _ _ s _ _ h => (by cases s <;> cases h)⟩
  | ex e =>
    refine ⟨@fun Wx X sc s g l h => ?_, fun _ _ s _ _ h => (by cases s <;> cases h)⟩
    cases s with
    | Expr v p =>
      simp only [ceS, Bool.and_eq_true, Bool.not_eq_true'] at h
      refine (ps_expr ((okE e).val X sc v g.toGE l h.1) (sw_no h.2 _ _ _)).w fun D σ H ⟨W, ρ, S, st, q⟩ => ?_
      exact T.st st q fun c S1 W1 z L1 s1 rc P1 => s1.nx P1
    | _ => cases h
  | ret e =>
    refine ⟨@fun Wx X sc s g l h => ?_, fun _ _ s _ _ h => (by cases s <;> cases h)⟩
    cases s with
    | Return v p =>
      cases v with
      | none => cases h
      | some v =>
        refine (ps_ret ((okE e).val X sc v g.toGE l h)).w fun D σ H ⟨W, ρ, S, st, q⟩ => ?_
        exact T.st st q fun c S1 W1 z L1 s1 rc P1 => P1 W1 z (Le.refl W1) s1.rep rc
    | _ => cases h
  | ifs c a b iha ihb =>
    refine ⟨@fun Wx X sc s g l h => ?_, fun _ _ s _ _ h => (by cases s <;> cases h)⟩
    cases s with
    | If t x y p =>
      simp only [ceS, Bool.and_eq_true, Bool.not_eq_true'] at h
      exact (ps_if ((okE c).tst X sc t g.toGE l.1 h.1.1.1 h.1.1.2) (iha.all X sc x g l.2.1 h.1.2) (ihb.all X sc y g l.2.2 h.2)).w fun D σ H q => TB.ifs q
    | _ => cases h
  | whl c b ihb =>
    refine ⟨@fun Wx X sc s g l h => ?_, fun _ _ s _ _ h => (by cases s <;> cases h)⟩
    cases s with
    | While t x el p =>
      cases el with
      | cons _ _ => cases h
      | nil =>
        simp only [ceS, Bool.and_eq_true, Bool.not_eq_true'] at h
        exact (ps_while g.po ((okE c).tst X sc t g.toGE l.1 h.1.1 h.1.2) (ihb.all X sc x g l.2 h.2)).w fun D σ H q => T.whl q
    | _ => cases h
  | «for» t it b ihb =>
    refine ⟨@fun Wx X sc s g l h => ?_, fun _ _ s _ _ h => (by cases s <;> cases h)⟩
    cases s with
    | For tg iter x el p =>
      cases el with
      | cons _ _ => cases h
      | nil =>
        simp only [ceS, Bool.and_eq_true, Bool.not_eq_true'] at h
        have hpg : PG X tg (gOf K t) := by
          have hN := g.hN
          have hK := g.hK
          have q := pg_V (X := X) g.calm (by rw [hN]; exact g.nd) g.scope g.fn t tg (by rw [hN]; exact h.1.1.1)
          rw [hK] at q
          exact q
        exact (ps_for g.po g.calm ((okE it).it X sc tg iter g.toGE l.1 h.1.1.2) hpg (ihb.all X sc x g l.2 h.2) (odd_fold h.1.2)).w fun D σ H q => T.for q
    | _ => cases h
  | lock f a iha =>
    refine ⟨@fun Wx X sc s g l h => ?_, fun _ _ s _ _ h => (by cases s <;> cases h)⟩
    have h' : ceS N sc a s = true := by simpa only [ceS] using h
    exact (ps_lockX fun d od u hn => iha.one X sc s { g with tk := takes_lock (od := od) (u := u) g.tk hn } l h').w fun D σ H q => TSt.lock q
  | tr F a iha =>
    refine ⟨@fun Wx X sc s g l h => ?_, fun _ _ s _ _ h => (by cases s <;> cases h)⟩
    have h : (match F.mat N sc s with
      | some ss => ceSs N sc a ss
      | none => false) = true := h
    cases em : F.mat N sc s with
    | none => rw [em] at h; cases h
    | some ss =>
      rw [em] at h
      exact l.1 N X sc _ s ss _ g em fun X' Wx' g' => iha.all X' sc ss g' l.2 h
  | brk =>
    refine ⟨@fun Wx X sc s g l h => ?_, fun _ _ s _ _ h => (by cases s <;> cases h)⟩
    cases s with
    | Break p =>
      refine ps_break.w fun D σ H ⟨W, ρ, S, st, q⟩ => ?_
      have := q W σ (Le.refl W) st.rep st.er
      rw [st.hH] at this
      exact this
    | _ => cases h
  | cont =>
    refine ⟨@fun Wx X sc s g l h => ?_, fun _ _ s _ _ h => (by cases s <;> cases h)⟩
    cases s with
    | Continue p =>
      refine ps_continue.w fun D σ H ⟨W, ρ, S, st, q⟩ => ?_
      have := q W σ (Le.refl W) st.rep st.er
      rw [st.hH] at this
      exact this
    | _ => cases h
  | pass =>
    refine ⟨@fun Wx X sc s g l h => ?_, fun _ _ s _ _ h => (by cases s <;> cases h)⟩
    cases s with
    | Pass p => exact ps_pass.w fun D σ H ⟨W, ρ, S, st, q⟩ => st.nx q
    | _ => cases h
end

/-! ### behind a call -/
section
variable {K : PySem.W.Frag} {W W' : Wd} {S S' : Store}
mutual
theorem noLoc_und (n : Nat) : ∀ a : AV, a.noLoc = true → a.und n = true
  | .tup l, h => noLocs_unds n l h
  | .lst l, h => noLocs_unds n l h
  | .ktp l, h => noLocs_unds n l h
  | .ftp l, h => noLocs_unds n l h
  | .loc _, h => by cases h
  | .non, _ => rfl
  | .bl _, _ => rfl
  | .int _, _ => rfl
  | .str _, _ => rfl
  | .ty _, _ => rfl
  | .scr _, _ => rfl
theorem noLocs_unds (n : Nat) : ∀ l : List AV, noLocs l = true → unds n l = true
  | [], _ => rfl
  | a :: l, h => by
    have h : (a.noLoc && noLocs l) = true := h
    rw [Bool.and_eq_true] at h
    show (a.und n && unds n l) = true
    rw [noLoc_und n a h.1, noLocs_unds n l h.2]; rfl
end
mutual
theorem RV.und : ∀ {a : AV} {x : V}, RV K W a x → a.und W.n = true
  | _, _, .non => rfl
  | _, _, .bl _ => rfl
  | _, _, .int _ => rfl
  | _, _, .str _ => rfl
  | _, _, .ty _ => rfl
  | _, _, .tup _ _ r => RVs.unds r
  | _, _, .ktup _ r => RVs.unds r
  | _, _, .ftup _ _ _ r => RVs.unds r
  | _, _, .lst _ _ r => RVs.unds r
  | _, _, .loc h => decide_eq_true h
  | _, _, .scr _ _ => rfl
  | _, _, .scl _ _ => rfl
  | _, _, .kscr _ => rfl
theorem RVs.unds : ∀ {l : List AV} {xs : List V}, RVs K W l xs → VI.unds W.n l = true
  | _, _, .nil => rfl
  | _, _, .cons (a := a) (l := l) h r => by
    show (a.und W.n && VI.unds W.n l) = true
    rw [RV.und h, RVs.unds r]; rfl
end
/-- the store cut back to n -/
def Wd.cut (W : Wd) (n : Nat) : Wd := { W with n := n }
theorem Wd.cut_stb {n : Nat} (h : n ≤ W.n) {a : Addr} (s : W.stb a) : (W.cut n).stb a := ⟨s.1, fun i hi => s.2 i (Nat.lt_of_lt_of_le hi h)⟩
mutual
theorem RV.cut {n : Nat} (hn : n ≤ W.n) : ∀ {a : AV} {x : V}, RV K W a x → a.und n = true → RV K (W.cut n) a x
  | _, _, .non, _ => .non
  | _, _, .bl b, _ => .bl b
  | _, _, .int i, _ => .int i
  | _, _, .str x, _ => .str x
  | _, _, .ty n, _ => .ty n
  | _, _, .tup h s r, u => .tup h (Wd.cut_stb hn s) (RVs.cut hn r u)
  | _, _, .ktup h r, u => .ktup h (RVs.cut hn r u)
  | _, _, .ftup h e s r, u => .ftup h e (Wd.cut_stb hn s) (RVs.cut hn r u)
  | _, _, .lst h s r, u => .lst h (Wd.cut_stb hn s) (RVs.cut hn r u)
  | _, _, .loc h, u => .loc (W := W.cut n) (of_decide_eq_true u)
  | _, _, .scr h s, _ => .scr h (Wd.cut_stb hn s)
  | _, _, .scl h s, _ => .scl h (Wd.cut_stb hn s)
  | _, _, .kscr h, _ => .kscr h
theorem RVs.cut {n : Nat} (hn : n ≤ W.n) : ∀ {l : List AV} {xs : List V}, RVs K W l xs → VI.unds n l = true → RVs K (W.cut n) l xs
  | _, _, .nil, _ => .nil
  | _, _, .cons (a := a) (l := l) h r, u => by
    have u : (a.und n && VI.unds n l) = true := u
    rw [Bool.and_eq_true] at u
    exact .cons (RV.cut hn h u.1) (RVs.cut hn r u.2)
end
def AObj.und (n : Nat) : AObj → Bool
  | .lst l => unds n l
  | .dct _ l => unds n (l.map (·.2))
  | .dcT _ l => unds n (l.map (·.2))
  | .ins _ f => unds n (f.map (·.2))
  | .tab _ => true
theorem RO.und {a : Addr} {o : AObj} (h : RO K W a o) : o.und W.n = true := by
  cases o with
  | lst l => obtain ⟨xs, _, r⟩ := h; exact RVs.unds r
  | dct b l => cases b with
    | false => obtain ⟨xs, _, r⟩ := h; exact RVs.unds r.2
    | true => obtain ⟨_, xs, o, _, r⟩ := h; exact RVs.unds r.2
  | dcT b l => cases b with
    | false => obtain ⟨xs, _, r⟩ := h; exact RVs.unds r.2
    | true => obtain ⟨_, xs, o, _, r⟩ := h; exact RVs.unds r.2
  | ins c f => obtain ⟨C, dx, xs, _, _, r⟩ := h; exact RVs.unds r.2
  | tab x => rfl
theorem RO.cut {n : Nat} (hn : n ≤ W.n) {a : Addr} {o : AObj} (h : RO K W a o) (u : o.und n = true) : RO K (W.cut n) a o := by
  cases o with
  | lst l => obtain ⟨xs, e, r⟩ := h; exact ⟨xs, e, r.cut hn u⟩
  | dct b l => cases b with
    | false => obtain ⟨xs, e, r⟩ := h; exact ⟨xs, e, r.1, r.2.cut hn u⟩
    | true => obtain ⟨q, xs, o, e, r⟩ := h; exact ⟨q, xs, o, e, r.1, r.2.cut hn u⟩
  | dcT b l => cases b with
    | false => obtain ⟨xs, e, r⟩ := h; exact ⟨xs, e, r.1, r.2.cut hn u⟩
    | true => obtain ⟨q, xs, o, e, r⟩ := h; exact ⟨q, xs, o, e, r.1, r.2.cut hn u⟩
  | ins c f => obtain ⟨C, dx, xs, e, m, r⟩ := h; exact ⟨C, dx, xs, e, m, r.1, r.2.cut hn u⟩
  | tab x => obtain ⟨m, ps, e, t, r⟩ := h; exact ⟨m, ps, e, t, fun pos cv q => let ⟨c, h1, h2, h3⟩ := r pos cv q; ⟨c, h1, h2, Wd.cut_stb hn h3⟩⟩
theorem AObj.noLoc_und {o : AObj} (n : Nat) (h : o.noLoc = true) : o.und n = true := by
  cases o <;> first | rfl | exact noLocs_unds n _ h
theorem Le.cut (L : Le W W') : Le W (W'.cut W.n) := ⟨Nat.le_refl _, L.φ, L.hid, fun a o e s => let ⟨e1, s1⟩ := L.stb a o e s; ⟨e1, Wd.cut_stb L.n s1⟩, L.hh, L.lk, L.ll⟩
theorem Rep.cut (R : Rep K W S) (L : Le W W') (R' : Rep K W' S') (h : TrOk S S') : Rep K (W'.cut W.n) (S'.take S.length) := by
  have hl := R.len
  have hl' := R'.len
  refine ⟨by rw [List.length_take, hl]; show min W.n S'.length = W.n; have := L.n; omega, fun i j hi hj e => R'.inj i j (Nat.lt_of_lt_of_le hi L.n) (Nat.lt_of_lt_of_le hj L.n) e, fun a q => ⟨(R'.hid a q).1, fun i hi => (R'.hid a q).2 i (Nat.lt_of_lt_of_le hi L.n)⟩, fun i o e => ?_, fun a q => ?_⟩
  rotate_left
  · obtain ⟨i, o, e1, e2, e3⟩ := R.lk a (by rw [← L.lk]; exact q)
    have hi := (List.getElem?_eq_some_iff.mp e1).1
    have hin : i < W.n := by rw [← hl]; exact hi
    obtain ⟨j, u, f1, f2, f3⟩ := R'.lk a q
    have hj : j < W'.n := by rw [← hl']; exact (List.getElem?_eq_some_iff.mp f1).1
    have ij : j = i := R'.inj j i hj (Nat.lt_of_lt_of_le hin L.n) (by rw [f2, L.φ i hin, e2])
    subst ij
    exact ⟨j, u, by rw [List.getElem?_take_of_lt hi]; exact f1, f2, f3⟩
  have hi : i < S.length := by
    have := (List.getElem?_eq_some_iff.mp e).1
    rw [List.length_take] at this; omega
  rw [List.getElem?_take_of_lt hi] at e
  have r := R'.obj i o e
  refine r.cut L.n ?_
  rcases h.2 i hi with q | ⟨o', q, qn⟩
  · have e2 : S[i]? = some o := by rw [← q]; exact e
    exact (R.obj i o e2).und
  · rw [q] at e
    cases e
    exact AObj.noLoc_und _ qn
theorem frz_ok (R' : Rep K W' S') {n : Nat} (hn : n ≤ W'.n) : ∀ (k : Nat) {a b : AV} {x : V}, frz k n S' a = some b → RV K W' a x → RV K (W'.cut n) b x := by
  intro k
  have pure_ : ∀ {a : AV} {x : V}, a.noLoc = true → RV K W' a x → RV K (W'.cut n) a x := fun h r => r.cut hn (noLoc_und n _ h)
  induction k with
  | zero =>
    intro a b x e r
    simp only [frz] at e
    split at e
    · cases e; exact pure_ (by assumption) r
    · cases e
  | succ k ih =>
    intro a b x e r
    have lists : ∀ {l m : List AV} {xs : List V}, l.mapM (frz k n S') = some m → RVs K W' l xs → RVs K (W'.cut n) m xs := by
      intro l
      induction l with
      | nil =>
        intro m xs e r
        cases r
        have e' : m = [] := by simpa using e.symm
        subst e'
        exact .nil
      | cons c l ihl =>
        intro m xs e r
        cases r with
        | cons p t =>
          rw [List.mapM_cons] at e
          cases e1 : frz k n S' c with
          | none => rw [e1] at e; cases e
          | some c' =>
            cases e2 : l.mapM (frz k n S') with
            | none => rw [e1, e2] at e; cases e
            | some l' =>
              rw [e1, e2] at e
              have e' : m = c' :: l' := by simpa using e.symm
              subst e'
              exact .cons (ih e1 p) (ihl e2 t)
    simp only [frz] at e
    split at e
    · cases e; exact pure_ (by assumption) r
    · rename_i hno
      cases a with
      | tup l =>
        dsimp only at e
        cases e2 : l.mapM (frz k n S') with
        | none => rw [e2] at e; cases e
        | some l' =>
          rw [e2] at e
          cases e
          cases r with
          | tup h1 s1 r1 => exact .tup h1 (Wd.cut_stb hn s1) (lists e2 r1)
      | lst l =>
        dsimp only at e
        cases e2 : l.mapM (frz k n S') with
        | none => rw [e2] at e; cases e
        | some l' =>
          rw [e2] at e
          cases e
          cases r with
          | lst h1 s1 r1 => exact .lst h1 (Wd.cut_stb hn s1) (lists e2 r1)
      | loc i =>
        dsimp only at e
        cases r with
        | loc hi =>
          split at e
          · rename_i hin
            cases e
            exact .loc (W := W'.cut n) hin
          · rename_i hin
            cases e1 : S'[i]? with
            | none => simp [e1] at e
            | some o =>
              cases o with
              | lst l =>
                simp only [e1] at e
                cases e2 : l.mapM (frz k n S') with
                | none => rw [e2] at e; cases e
                | some l' =>
                  rw [e2] at e
                  cases e
                  obtain ⟨xs, h1, r1⟩ := R'.obj i _ e1
                  refine .lst h1 ⟨fun q => (R'.hid _ q).2 i hi rfl, fun j hj q => ?_⟩ (lists e2 r1)
                  have hj' : j < n := hj
                  have := R'.inj j i (by omega) hi q
                  omega
              | _ => simp [e1] at e
      | ktp l => cases e
      | ftp l => cases e
      | non => exact absurd rfl hno
      | bl _ => exact absurd rfl hno
      | int _ => exact absurd rfl hno
      | str _ => exact absurd rfl hno
      | ty _ => exact absurd rfl hno
      | scr _ => exact absurd rfl hno
end
end VI

set_option maxRecDepth 100000
set_option maxHeartbeats 2000000
/-! VI12: a def keeps its promise; a law's end. -/
namespace VI
open PySem PySem.Spec PyProof.Rows L2 RZ
section
variable {P : Program} {w : World} {K : PySem.W.Frag} {mg : Str → Option Value} {base : Heap} {k : Nat}
theorem mkFn_ar {keep : Bool} {np n : Nat} {b : St} {as : List AV} {S S' : Store} {r : AV} (h : mkFn keep np n b as S = .ok r S') : as.length = np := by
  unfold mkFn at h
  split at h
  · assumption
  · cases h
theorem fin_post {keep : Bool} {W W' : Wd} {S S1 : Store} {a : AV} {x : V} {Q : VK} (R : Rep K W S) (L : Le W W') (R' : Rep K W' S1) (ra : RV K W' a x) (h : PostO K W (fin keep S a S1) Q) : Q x W'.H := by
  obtain ⟨r, S', e, P⟩ := h
  unfold fin at e
  cases keep with
  | true =>
    rw [if_pos rfl] at e
    cases e
    exact P W' x L R' ra
  | false =>
    rw [if_neg (by decide)] at e
    split at e
    · rename_i ht
      cases e2 : frz 4 S.length S1 a with
      | none => rw [e2] at e; cases e
      | some r' =>
        rw [e2] at e
        cases e
        have hn : W.n ≤ W'.n := L.n
        refine P (W'.cut W.n) x L.cut (R.cut L R' ht) ?_
        rw [R.len] at e2
        exact frz_ok R' hn 4 e2 ra
    · cases e
/-- a def as it stands behind the top, with or without defaults -/
structure FunA (K : PySem.W.Frag) (x qual : Str) (st : Stmt) (f : Addr) (fd : FuncData) : Prop where
  ex : ∃ (oc : Value) (od : Option Addr) (dV kV doc pm : Value) (an : Option Addr) (cdv ct : Value) (osl : Array (Option Value)),
    fd = PySem.W.fnOf x qual (defArgs st) (defBody st) (defScope st) dV kV doc pm an cdv ct ∧ K.lookup f = some ⟨oc, od, .func fd, osl⟩ ∧ PySem.W.codeIn K cdv qual = true
  kp : PySem.W.keepIn K (.ref f) = true
theorem _root_.L2.Fun.a {x qual : Str} {st : Stmt} {f : Addr} {fd : FuncData} (F : Fun K x qual st f fd) : FunA K x qual st f fd :=
  ⟨let ⟨oc, od, kV, doc, pm, an, cdv, ct, osl, h1, h2, h3⟩ := F.ex; ⟨oc, od, .none, kV, doc, pm, an, cdv, ct, osl, h1, h2, h3⟩, F.kp⟩
theorem funA_mk {x qual : Str} {st : Stmt} {f : Addr} {oc : Value} {od an : Option Addr} {osl : Array (Option Value)} {dV kV doc pm cdv ct : Value} (l : K.lookup f = some ⟨oc, od, .func (PySem.W.fnOf x qual (defArgs st) (defBody st) (defScope st) dV kV doc pm an cdv ct), osl⟩)
    (c : PySem.W.codeIn K cdv qual = true) (k : PySem.W.keepIn K (.ref f) = true) : FunA K x qual st f (PySem.W.fnOf x qual (defArgs st) (defBody st) (defScope st) dV kV doc pm an cdv ct) := ⟨⟨oc, od, dV, kV, doc, pm, an, cdv, ct, osl, rfl, l, c⟩, k⟩
theorem FunA.go {CX : CXT} {x qual : Str} {st : Stmt} {f : Addr} {fd : FuncData} {N ps : List Str} {k : Nat} {sp : Sp} (F : FunA K x qual st f fd) (S : FnScope N ps (defScope st)) (len : ∀ vs H Q E, sp vs H Q E → vs.length = ps.length)
    (hbody : ∀ (cdv : Value) (A : Around) (outer : List Env) (s : Shared) (H : Hp) (vs : List V) (Q : VK) (E : XK), Room k (A.deeper (envOfC qual (defScope st) s.heap.objs.size f cdv)) → sp vs H Q E →
      ∃ t, PSs (cxOf CX P w K mg base N qual (defScope st) f cdv A outer s H E) (defBody st) t ∧ t { nx := fun _ H' => Q .non H', rt := Q } (L2.start N vs) H) : FnOk P w K mg base CX (k + 1) f fd ps sp := by
  obtain ⟨oc, od, dV, kV, doc, pm, an, cdv, ct, osl, rfl, lk, hcd⟩ := F.ex
  exact fn_of lk hcd S len fun A outer s H vs Q E hr hsp => hbody cdv A outer s H vs Q E hr hsp
theorem FunA.go0 {x qual : Str} {st : Stmt} {f : Addr} {fd : FuncData} {N ps : List Str} {k : Nat} {sp : Sp} (F : FunA K x qual st f fd) (S : FnScope N ps (defScope st)) (len : ∀ vs H Q E, sp vs H Q E → vs.length = ps.length)
    (hbody : ∀ (cdv : Value) (A : Around) (outer : List Env) (s : Shared) (H : Hp) (vs : List V) (Q : VK) (E : XK), Room k (A.deeper (envOfC qual (defScope st) s.heap.objs.size f cdv)) → sp vs H Q E →
      ∃ t, PSs (cxOf CX0 P w K mg base N qual (defScope st) f cdv A outer s H E).nox (defBody st) t ∧ t { nx := fun _ H' => Q .non H', rt := Q } (L2.start N vs) H) : FnOk P w K mg base CX0 (k + 1) f fd ps sp :=
  F.go S len fun cdv A outer s H vs Q E hr hsp => let ⟨t, h, q⟩ := hbody cdv A outer s H vs Q E hr hsp; ⟨t, h.nox, q⟩
theorem fn_ok {keep : Bool} {x qual : Str} {st : Stmt} {f : Addr} {fd : FuncData} {N ps : List Str} {body : St} (F : FunA K x qual st f fd) (Sc : FnScope N ps (defScope st)) (hc : ceSs N (defScope st) body (defBody st) = true)
    (hl : LkS K mg (Fx P w K mg base k) (Go P w K mg base k) body) : FnOk P w K mg base CX0 (k + 1) f fd ps (spOf K (mkFn keep ps.length N.length body)) := by
  refine F.go0 Sc (fun vs H Q E h => ?_) (fun cdv A outer s H vs Q E hr h => ?_)
  · obtain ⟨W, S, as, _, _, rs, r, S', e, _⟩ := h
    rw [← rs.len]; exact mkFn_ar e
  · obtain ⟨W, S, as, rfl, R, rs, PO⟩ := h
    have hlen : as.length = ps.length := by obtain ⟨r, S', e, _⟩ := PO; exact mkFn_ar e
    have g : GS P w K mg base k N (fun _ _ _ _ => False) (cxOf CX0 P w K mg base N qual (defScope st) f cdv A outer s W.H E).nox (defScope st) := ⟨⟨rfl, rfl, rfl, rfl, rfl, rfl, Sc.nd, rfl, hr, rfl⟩, rfl, .never, fun _ _ x => (by obtain ⟨_, _, _, _, _, _, _, _, _, _, _, _, _, _, _, _, z⟩ := x; exact z), rfl, rfl⟩
    refine ⟨_, (okS body).all _ _ _ g hl hc, W, as.map some ++ List.replicate (N.length - ps.length) none, S, ⟨rfl, R, ?_⟩, ?_⟩
    · have hl2 := rs.len
      refine ⟨by unfold L2.start; simp; omega, fun i a e => ?_⟩
      unfold L2.start
      by_cases hi : i < as.length
      · rw [List.getElem?_append_left (by simpa using hi), List.getElem?_map] at e
        rw [List.getElem?_append_left (by simp; omega), List.getElem?_map]
        cases ea : as[i]? with
        | none => rw [ea] at e; cases e
        | some b =>
          rw [ea] at e
          cases e
          obtain ⟨y, h1, h2⟩ := rs.get ea
          exact ⟨y, by rw [h1]; rfl, h2⟩
      · rw [List.getElem?_append_right (by simp; omega), List.getElem?_replicate] at e
        split at e <;> cases e
    · unfold mkFn at PO
      rw [if_pos hlen] at PO
      cases e : denS body (as.map some ++ List.replicate (N.length - ps.length) none) S with
      | rt a S1 => rw [e] at PO; exact fun W' y L R' ry => fin_post R L R' ry PO
      | nx ρ S1 => rw [e] at PO; exact fun W' σ L R' er => fin_post R L R' .non PO
      | ex c ρ S1 =>
        rw [e] at PO
        obtain ⟨r, S', e2, _⟩ := PO
        obtain ⟨_, _, _, e3⟩ := Out.bd_eq e2
        cases e3
      | bk ρ S1 => rw [e] at PO; exact PO.no.elim
      | ct ρ S1 => rw [e] at PO; exact PO.no.elim
      | no => rw [e] at PO; exact PO.no.elim
theorem fx_ok {keep : Bool} {x qual y : Str} {st : Stmt} {f : Addr} {fd : FuncData} {N ps : List Str} {body : St} (F : FunA K x qual st f fd) (hm : mg y = some (.ref f)) (hb : Binds K fd ps []) (Sc : FnScope N ps (defScope st)) (hc : ceSs N (defScope st) body (defBody st) = true)
    (hl : LkS K mg (Fx P w K mg base k) (Go P w K mg base k) body) : Fx P w K mg base (k + 1) y (mkFn keep ps.length N.length body) :=
  ⟨f, fd, ps, hm, F.kp, hb, fun _ _ _ _ e => mkFn_ar e, fn_ok F Sc hc hl⟩
theorem Fx.mono {j : Nat} {y : Str} {d : Fn} (h : Fx P w K mg base j y d) (hk : j ≤ k) : Fx P w K mg base k y d :=
  let ⟨f, fd, ps, h1, h2, h3, h4, h5⟩ := h; ⟨f, fd, ps, h1, h2, h3, h4, h5.mono hk⟩
/-! ### defs that may raise -/
theorem mkFn_arX {keep : Bool} {np n : Nat} {b : St} {as : List AV} {S : Store} (h : mkFn keep np n b as S ≠ .no) : as.length = np := by
  unfold mkFn at h
  split at h
  · assumption
  · exact absurd rfl h
/-- .. its promise -/
def spX (K : PySem.W.Frag) (d : Fn) : Sp := fun vs H Q E => ∃ W S as, W.H = H ∧ Rep K W S ∧ RVs K W as vs ∧ PostOX K W E (d as S) Q
theorem spOf.x {K : PySem.W.Frag} {d : Fn} {vs : List V} {H : Hp} {Q : VK} {E E' : XK} (h : spOf K d vs H Q E) : spX K d vs H Q E' := by
  obtain ⟨W, S, as, h1, h2, h3, r, S', e, p⟩ := h
  exact ⟨W, S, as, h1, h2, h3, by rw [e]; exact p⟩
theorem PostOX.ne {W : Wd} {E : XK} {o : Out AV} {Q : VK} (h : PostOX K W E o Q) : o ≠ .no := by
  rintro rfl
  exact h
theorem XR.cut {W : Wd} {n : Nat} (hn : n ≤ W.n) {c : AV} {cls : Value} {d : Option Addr} (h : XR K W c cls d) : XR K (W.cut n) c cls d := by
  unfold XR at h ⊢
  split at h
  · exact h
  · obtain ⟨C, dx, h1, h2, h3, h4, h5⟩ := h
    exact ⟨C, dx, h1, h2, h3, h4, Wd.cut_stb hn h5⟩
  · exact h
theorem XR.nl {W : Wd} {c : AV} {cls : Value} {d : Option Addr} (h : XR K W c cls d) : c.noLoc = true := by
  unfold XR at h
  split at h
  · rfl
  · rfl
  · exact h.elim
theorem fin_px {keep : Bool} {W W' : Wd} {S S1 : Store} {a : AV} {x : V} {Q : VK} {E : XK} (R : Rep K W S) (L : Le W W') (R' : Rep K W' S1) (ra : RV K W' a x) (h : PostOX K W E (fin keep S a S1) Q) : Q x W'.H := by
  refine fin_post (keep := keep) (S1 := S1) (W := W) R L R' ra ?_
  cases e : fin keep S a S1 with
  | ok r S' => rw [e] at h; exact ⟨r, S', rfl, h⟩
  | ex c S' =>
    unfold fin at e
    split at e
    · cases e
    · split at e
      · split at e <;> cases e
      · cases e
  | no => rw [e] at h; exact h.elim
theorem fin_ex {keep : Bool} {W W' : Wd} {S S1 : Store} {c : AV} {Q : VK} {E : XK} {cls : Value} {d : Option Addr} (R : Rep K W S) (L : Le W W') (R' : Rep K W' S1) (rc : XR K W' c cls d) (h : PostOX K W E ((fin keep S c S1).bd fun c S => Out.ex c S) Q) : E cls d W'.H := by
  unfold fin at h
  cases keep with
  | true =>
    rw [if_pos rfl] at h
    exact h W' cls d L R' rc
  | false =>
    rw [if_neg (by decide)] at h
    split at h
    · rename_i ht
      rw [frz_of rc.nl] at h
      exact h (W'.cut W.n) cls d L.cut (R.cut L R' ht) (rc.cut L.n)
    · exact h.elim
theorem fnx_ok {keep : Bool} {x qual : Str} {st : Stmt} {f : Addr} {fd : FuncData} {N ps : List Str} {body : St} (F : FunA K x qual st f fd) (Sc : FnScope N ps (defScope st)) (hc : ceSs N (defScope st) body (defBody st) = true)
    (hl : LkS K mg (Fx P w K mg base k) (Go P w K mg base k) body) : FnOk P w K mg base (L2N.CX P w) (k + 1) f fd ps (spX K (mkFn keep ps.length N.length body)) := by
  refine F.go Sc (fun vs H Q E h => ?_) (fun cdv A outer s H vs Q E hr h => ?_)
  · obtain ⟨W, S, as, _, _, rs, po⟩ := h
    rw [← rs.len]; exact mkFn_arX po.ne
  · obtain ⟨W, S, as, rfl, R, rs, PO⟩ := h
    have hlen : as.length = ps.length := mkFn_arX PO.ne
    have g : GS P w K mg base k N (fun cls d _ H => E cls d H) (cxOf (L2N.CX P w) P w K mg base N qual (defScope st) f cdv A outer s W.H E) (defScope st) := ⟨⟨rfl, rfl, rfl, rfl, rfl, rfl, Sc.nd, rfl, hr, rfl⟩, rfl, passes_of rfl, L2N.takes_of rfl rfl rfl rfl, rfl, rfl⟩
    refine ⟨_, (okS body).all _ _ _ g hl hc, W, as.map some ++ List.replicate (N.length - ps.length) none, S, ⟨rfl, R, ?_⟩, ?_⟩
    · have hl2 := rs.len
      refine ⟨by unfold L2.start; simp; omega, fun i a e => ?_⟩
      unfold L2.start
      by_cases hi : i < as.length
      · rw [List.getElem?_append_left (by simpa using hi), List.getElem?_map] at e
        rw [List.getElem?_append_left (by simp; omega), List.getElem?_map]
        cases ea : as[i]? with
        | none => rw [ea] at e; cases e
        | some b =>
          rw [ea] at e
          cases e
          obtain ⟨y, h1, h2⟩ := rs.get ea
          exact ⟨y, by rw [h1]; rfl, h2⟩
      · rw [List.getElem?_append_right (by simp; omega), List.getElem?_replicate] at e
        split at e <;> cases e
    · unfold mkFn at PO
      rw [if_pos hlen] at PO
      cases e : denS body (as.map some ++ List.replicate (N.length - ps.length) none) S with
      | rt a S1 => rw [e] at PO; exact fun W' y L R' ry => fin_px R L R' ry PO
      | nx ρ S1 => rw [e] at PO; exact fun W' σ L R' er => fin_px R L R' .non PO
      | ex c ρ S1 => rw [e] at PO; exact fun W' σ cls d L R' er rc => fin_ex R L R' rc PO
      | bk ρ S1 => rw [e] at PO; exact PO.elim
      | ct ρ S1 => rw [e] at PO; exact PO.elim
      | no => rw [e] at PO; exact PO.elim
/-- where it does not raise -/
theorem fnx_calm {f : Addr} {fd : FuncData} {ps : List Str} {d : Fn} (F : FnOk P w K mg base (L2N.CX P w) k f fd ps (spX K d)) : FnOk P w K mg base CX0 k f fd ps (spOf K d) := by
  refine ⟨fun vs H Q E h => F.len vs H Q (fun _ _ _ => False) h.x, fun A outer s H args us vs Q E hr e0 hb r h => ?_⟩
  refine codeAny_mono (F.run A outer s H args us vs Q (fun _ _ _ => False) hr e0 hb r h.x) fun r s' hq => ?_
  cases r with
  | error e =>
    obtain ⟨_, _, _, _, _, _, _, _, _, _, _, _, z⟩ := hq
    exact z.elim
  | ok fl => cases fl <;> exact hq
/-- the def that stands at a name may raise -/
def FxE (P : Program) (w : World) (K : PySem.W.Frag) (mg : Str → Option Value) (base : Heap) (k : Nat) (x : Str) (d : Fn) : Prop :=
  ∃ f fd ps, mg x = some (.ref f) ∧ PySem.W.keepIn K (.ref f) = true ∧ Binds K fd ps [] ∧ (∀ as S r S', d as S = .ok r S' → as.length = ps.length) ∧ FnOk P w K mg base (L2N.CX P w) k f fd ps (spX K d)
theorem fxe_ok {keep : Bool} {x qual y : Str} {st : Stmt} {f : Addr} {fd : FuncData} {N ps : List Str} {body : St} (F : FunA K x qual st f fd) (hm : mg y = some (.ref f)) (hb : Binds K fd ps []) (Sc : FnScope N ps (defScope st)) (hc : ceSs N (defScope st) body (defBody st) = true)
    (hl : LkS K mg (Fx P w K mg base k) (Go P w K mg base k) body) : FxE P w K mg base (k + 1) y (mkFn keep ps.length N.length body) :=
  ⟨f, fd, ps, hm, F.kp, hb, fun _ _ _ _ e => mkFn_ar e, fnx_ok F Sc hc hl⟩
theorem FxE.mono {j : Nat} {y : Str} {d : Fn} (h : FxE P w K mg base j y d) (hk : j ≤ k) : FxE P w K mg base k y d :=
  let ⟨f, fd, ps, h1, h2, h3, h4, h5⟩ := h; ⟨f, fd, ps, h1, h2, h3, h4, h5.mono hk⟩
theorem FxE.fx {y : Str} {d : Fn} (h : FxE P w K mg base k y d) : Fx P w K mg base k y d :=
  let ⟨f, fd, ps, h1, h2, h3, h4, h5⟩ := h; ⟨f, fd, ps, h1, h2, h3, h4, fnx_calm h5⟩
end
/-- the law holds of the script -/
theorem law_sp {d : Fn} (h : ∀ ns : List Int, ns.length ≤ 63 → ∃ S', d [.scr ns] [] = .ok (.bl true) S') (K : PySem.W.Frag) (H : Hp) (a : Addr) (ns : List Int) (hn : ns.length ≤ 63) (hO : Only H) (hS : SqL K H a (ns.map V.int)) :
    spOf K d [.ref a] H (fun v _ => v = .bl true) fun _ _ _ => False := by
  obtain ⟨S', e⟩ := h ns hn
  refine ⟨⟨fun _ => 0, 0, fun _ => False, H, fun _ => False⟩, [], [.scr ns], rfl, ⟨rfl, fun i j hi => absurd hi (Nat.not_lt_zero _), fun a q => q.elim, fun i o q => by simp at q, fun a q => q.elim⟩, .cons ?_ .nil, .bl true, S', e, fun W' x _ _ r => by cases r; rfl⟩
  rcases hS with (hS | ⟨o, hS⟩) | ⟨o, its, n, h1⟩
  · rcases hO a with q | ⟨o, xs, q⟩
    · rw [q] at hS; cases hS
    · rw [q] at hS; cases hS
  · exact .scr hS ⟨fun q => q, fun i hi => absurd hi (Nat.not_lt_zero _)⟩
  · exact .kscr fun H' => .inr ⟨o, its, n, h1⟩
end VI

set_option maxRecDepth 100000
/-! VI13: what a piece of our language surely does: rules to reckon with. -/
namespace VI
open PySem L2
section
variable {α β : Type}
def wp (x : Out α) (Q : α → Store → Prop) : Prop := ∃ a S, x = .ok a S ∧ Q a S
@[simp] theorem wp_ok (a : α) (S : Store) (Q : α → Store → Prop) : wp (.ok a S) Q = Q a S := by
  refine propext ⟨?_, fun h => ⟨_, _, rfl, h⟩⟩
  rintro ⟨_, _, e, h⟩
  cases e
  exact h
@[simp] theorem wp_no (Q : α → Store → Prop) : wp .no Q = False := by
  refine propext ⟨?_, False.elim⟩
  rintro ⟨_, _, e, h⟩
  cases e
@[simp] theorem wp_ex (c : AV) (S : Store) (Q : α → Store → Prop) : wp (.ex c S) Q = False := by
  refine propext ⟨?_, False.elim⟩
  rintro ⟨_, _, e, h⟩
  cases e
@[simp] theorem wp_bd (x : Out α) (f : α → Store → Out β) (Q : β → Store → Prop) : wp (x.bd f) Q = wp x fun a S => wp (f a S) Q := by
  cases x <;> simp
theorem wp.mono {x : Out α} {Q R : α → Store → Prop} (h : wp x Q) (k : ∀ a S, Q a S → R a S) : wp x R := let ⟨a, S, e, q⟩ := h; ⟨a, S, e, k _ _ q⟩
@[simp] theorem wp_ite (c : Prop) [Decidable c] (x : Out α) (Q : α → Store → Prop) : wp (if c then x else .no) Q = (c ∧ wp x Q) := by
  by_cases h : c <;> simp [h]
@[simp] theorem wp_optD (o : Option β) (f : β → Out α) (Q : α → Store → Prop) : wp (optD o f) Q = ∃ a, o = some a ∧ wp (f a) Q := by
  cases o <;> simp
@[simp] theorem wp_outB (o : Option Bool) (S : Store) (Q : AV → Store → Prop) : wp (outB o S) Q = ∃ b, o = some b ∧ Q (.bl b) S := by
  cases o <;> simp [outB]
theorem wp_eq {x : Out α} {a : α} {S : Store} (e : x = .ok a S) (Q : α → Store → Prop) : wp x Q = Q a S := by rw [e]; simp
end

def optV (o : Option (Option AV)) (S : Store) : Out AV := match o with
  | some (some a) => .ok a S
  | _ => .no
@[simp] theorem optV_some (a : AV) (S : Store) : optV (some (some a)) S = .ok a S := rfl
section
variable (ρ : Ev) (S : Store) (Q : AV → Store → Prop)
@[simp] theorem d_v (i : Nat) : den (.v i) ρ S = optV ρ[i]? S := by
  rw [den]
  rcases ρ[i]? with _ | _ | a <;> rfl
@[simp] theorem d_c (a : AV) : den (.c a) ρ S = .ok a S := by rw [den]
@[simp] theorem d_g (x : Str) (a : AV) : den (.g x a) ρ S = .ok a S := by rw [den]
@[simp] theorem d_bt (n : String) : den (.bt n) ρ S = .ok (.ty n) S := by rw [den]
@[simp] theorem d_nop : den .nop ρ S = .ok .non S := by rw [den]
@[simp] theorem d_bin (m : Bool) (o : BOp) (a b : E) : wp (den (.bin m o a b) ρ S) Q = wp (den a ρ S) fun x S1 => wp (den b ρ S1) fun y S2 => wp (binD m o x y S2) Q := by rw [den]; simp
@[simp] theorem d_neg (a : E) : wp (den (.neg a) ρ S) Q = wp (den a ρ S) fun x S1 => ∃ i, x = .int i ∧ Q (.int (-i)) S1 := by
  rw [den, wp_bd]
  congr 1
  funext x S1
  cases x <;> simp
@[simp] theorem d_not (a : E) : wp (den (.not a) ρ S) Q = wp (den a ρ S) fun x S1 => ∃ b, truth S1 x = some b ∧ Q (.bl (!b)) S1 := by
  rw [den, wp_bd]
  congr 1
  funext x S1
  rcases truth S1 x with _ | _ | _ <;> simp
@[simp] theorem d_cmp (o : COp) (a b : E) : wp (den (.cmp o a b) ρ S) Q = wp (den a ρ S) fun x S1 => wp (den b ρ S1) fun y S2 => ∃ t, cmpD o x y S2 = some t ∧ Q (.bl t) S2 := by rw [den]; simp
@[simp] theorem d_cmx (F : FormC) (a b : E) : wp (den (.cmx F a b) ρ S) Q = wp (den a ρ S) fun x S1 => wp (den b ρ S1) fun y S2 => wp (F.sem x y S2) Q := by rw [den]; simp
@[simp] theorem d_chain (o p : COp) (a b c : E) : wp (den (.chain o p a b c) ρ S) Q = wp (den a ρ S) fun x S1 => wp (den b ρ S1) fun y S2 => ∃ t, cmpD o x y S2 = some t ∧ (t = true → wp (den c ρ S2) fun z S3 => ∃ u, cmpD p y z S3 = some u ∧ Q (.bl u) S3) ∧ (t = false → Q (.bl false) S2) := by
  rw [den]; simp only [wp_bd]
  congr 1; funext x S1; congr 1; funext y S2
  cases cmpD o x y S2 with
  | none => simp
  | some t => cases t <;> simp
@[simp] theorem d_and (a b : E) : wp (den (.and a b) ρ S) Q = wp (den a ρ S) fun x S1 => ∃ t, truth S1 x = some t ∧ (t = true → wp (den b ρ S1) Q) ∧ (t = false → Q x S1) := by
  rw [den, wp_bd]; congr 1; funext x S1
  cases truth S1 x with
  | none => simp
  | some t => cases t <;> simp
@[simp] theorem d_or (a b : E) : wp (den (.or a b) ρ S) Q = wp (den a ρ S) fun x S1 => ∃ t, truth S1 x = some t ∧ (t = true → Q x S1) ∧ (t = false → wp (den b ρ S1) Q) := by
  rw [den, wp_bd]; congr 1; funext x S1
  cases truth S1 x with
  | none => simp
  | some t => cases t <;> simp
@[simp] theorem d_ite (c a b : E) : wp (den (.ite c a b) ρ S) Q = wp (den c ρ S) fun x S1 => ∃ t, truth S1 x = some t ∧ (t = true → wp (den a ρ S1) Q) ∧ (t = false → wp (den b ρ S1) Q) := by
  rw [den, wp_bd]; congr 1; funext x S1
  cases truth S1 x with
  | none => simp
  | some t => cases t <;> simp
@[simp] theorem d_tup (l : E) : wp (den (.tup l) ρ S) Q = wp (denL l ρ S) fun xs S1 => xs.length ≤ sizeLine ∧ Q (.tup xs) S1 := by rw [den]; simp
@[simp] theorem d_lst (m : Bool) (l : E) : wp (den (.lst m l) ρ S) Q = wp (denL l ρ S) fun xs S1 => xs.length ≤ sizeLine ∧ wp (mkL m xs S1) Q := by rw [den]; simp
@[simp] theorem d_ix (a i : E) : wp (den (.ix a i) ρ S) Q = wp (den a ρ S) fun x S1 => wp (den i ρ S1) fun y S2 => wp (ixD x y S2) Q := by rw [den]; simp
@[simp] theorem d_rev (m : Bool) (a : E) : wp (den (.rev m a) ρ S) Q = wp (den a ρ S) fun x S1 => wp (revD m x S1) Q := by rw [den]; simp
@[simp] theorem d_call (x : Str) (d : Fn) (l : E) : wp (den (.call x d l) ρ S) Q = wp (denL l ρ S) fun xs S1 => wp (d xs S1) Q := by rw [den]; simp
@[simp] theorem d_prim (m : Bool) (p : Prim) (l : E) : wp (den (.prim m p l) ρ S) Q = wp (denL l ρ S) fun xs S1 => wp (primD m p xs S1) Q := by rw [den]; simp
@[simp] theorem d_met (m : Bool) (p : Mth) (r l : E) : wp (den (.met m p r l) ρ S) Q = wp (den r ρ S) fun x S1 => rcvOk p S1 x = true ∧ wp (denL l ρ S1) fun xs S2 => wp (mthD m p x xs S2) Q := by rw [den]; simp
@[simp] theorem d_comp (m : Bool) (own : List Nat) (t : Tg) (it e cd : E) : wp (den (.comp m own t it e cd) ρ S) Q = wp (denI it ρ S) fun w S1 => wp (compD t (fun ρ S => den e ρ S) (cdD cd.isNop fun ρ S => den cd ρ S) w.2 (wipeE ρ own) w.1 S1) fun l S2 => wp (mkL m l S2) Q := by rw [den]; simp
@[simp] theorem d_lrg (m : Bool) (a : E) : wp (den (.lrg m a) ρ S) Q = wp (den a ρ S) fun x S1 => ∃ j, x = .int j ∧ (-(2 ^ 60) ≤ j ∧ j ≤ 10000000) ∧ wp (mkL m ((List.range j.toNat).map fun (k : Nat) => .int k) S1) Q := by
  rw [den, wp_bd]; congr 1; funext x S1
  cases x <;> simp
@[simp] theorem d_lrg2 (m : Bool) (a b : E) : wp (den (.lrg2 m a b) ρ S) Q = wp (den a ρ S) fun x S1 => wp (den b ρ S1) fun y S2 => ∃ i j, x = .int i ∧ y = .int j ∧ (-(2 ^ 60) ≤ i ∧ i ≤ 2 ^ 60 ∧ -(2 ^ 60) ≤ j ∧ j ≤ 2 ^ 60 ∧ j - i ≤ 10000000) ∧ wp (mkL m ((List.range (j - i).toNat).map fun (k : Nat) => .int (i + k)) S2) Q := by
  rw [den, wp_bd]; congr 1; funext x S1
  rw [wp_bd]; congr 1; funext y S2
  cases x <;> cases y <;> simp
@[simp] theorem d_lrg3 (m : Bool) (a b c : E) : wp (den (.lrg3 m a b c) ρ S) Q = wp (den a ρ S) fun x S1 => wp (den b ρ S1) fun y S2 => wp (den c ρ S2) fun z S3 => ∃ i j k, x = .int i ∧ y = .int j ∧ z = .int k ∧ (-(2 ^ 60) ≤ i ∧ i ≤ 2 ^ 60 ∧ -(2 ^ 60) ≤ j ∧ j ≤ 2 ^ 60 ∧ j - i ≤ 10000000 ∧ 0 < k ∧ k ≤ 1000000) ∧ wp (mkL m ((List.range (rgN i j k)).map fun (t : Nat) => .int (i + t * k)) S3) Q := by
  rw [den, wp_bd]; congr 1; funext x S1
  rw [wp_bd]; congr 1; funext y S2
  rw [wp_bd]; congr 1; funext z S3
  cases x <;> cases y <;> cases z <;> simp
@[simp] theorem d_sset (m : Bool) (a : E) : wp (den (.sset m a) ρ S) Q = wp (den a ρ S) fun x S1 => wp (intsQ S1 x fun ns => if ns.length < 61 then mkL m ((sortI (dedI ns)).map .int) S1 else .no) Q := by
  rw [den, wp_bd]
@[simp] theorem prt_int (i : Int) (S : Store) (b : Bool) : prt b (.ok (.int i) S) = .ok (.int i) S := by cases b <;> rfl
@[simp] theorem prt_t (x : Out AV) : prt true x = x := rfl
theorem wp_prt_f (x : Out AV) : wp (prt false x) Q = wp x fun y S1 => ∃ i, y = .int i ∧ Q (.int i) S1 := by
  show wp (x.bd _) Q = _
  rw [wp_bd]; congr 1; funext y S1
  cases y <;> simp
@[simp] theorem d_sl (m : Bool) (a lo hi : E) : wp (den (.sl m a lo hi) ρ S) Q = wp (den a ρ S) fun x S1 => wp (prt lo.isNop (den lo ρ S1)) fun y S2 => wp (prt hi.isNop (den hi ρ S2)) fun z S3 => wp (slD m x y z S3) Q := by rw [den]; simp
@[simp] theorem dL_nil : denL .nil ρ S = .ok [] S := by rw [denL]
@[simp] theorem dL_cons (a r : E) (R : List AV → Store → Prop) : wp (denL (.cons a r) ρ S) R = wp (den a ρ S) fun x S1 => wp (denL r ρ S1) fun xs S2 => R (x :: xs) S2 := by rw [denL]; simp
@[simp] theorem wp_tru (x : Out AV) : wp (truD x) Q = wp x fun a S => ∃ t, truth S a = some t ∧ Q (.bl t) S := by unfold truD; simp
variable (R : (List AV × List (Nat × List AV)) → Store → Prop)
/-- what a walk over a value goes through -/
def walkOf (S : Store) : AV → Option (List AV × List (Nat × List AV))
  | .loc i => match S[i]? with
    | some (.lst l) => some (l, [(i, l)])
    | _ => none
  | .str z => some (z.cps.toList.map fun c => .str ⟨#[c]⟩, [])
  | x => (itemsOf S x).map fun l => (l, [])
def okO {α : Type} (o : Option α) (S : Store) : Out α := match o with
  | some a => .ok a S
  | none => .no
@[simp] theorem okO_s {α : Type} (a : α) (S : Store) : okO (some a) S = .ok a S := rfl
theorem wp_okO {α : Type} (o : Option α) (S : Store) (Q : α → Store → Prop) : wp (okO o S) Q = ∃ a, o = some a ∧ Q a S := by
  cases o <;> simp [okO]
@[simp] theorem dI_v (e : E) : wp (denI (.itv e) ρ S) R = wp (den e ρ S) fun x S1 => wp (okO (walkOf S1 x) S1) R := by
  simp only [wp_okO]
  rw [denI, wp_bd]; congr 1; funext x S1
  cases x <;> simp only [walkOf, itemsOf, wp_ok, wp_no, Option.map_some, Option.map_none, Option.some.injEq, exists_eq_left', reduceCtorEq, false_and, exists_false]
  rename_i i
  cases h : S1[i]? with
  | none => simp
  | some o => cases o <;> simp only [wp_ok, wp_no, Option.some.injEq, exists_eq_left', reduceCtorEq, false_and, exists_false]
@[simp] theorem dI_1 (a : E) : wp (denI (.it1 a) ρ S) R = wp (den a ρ S) fun x S1 => ∃ j, x = .int j ∧ (j ≤ 2 ^ 60 ∧ -(2 ^ 60) ≤ j) ∧ R ((List.range j.toNat).map fun (k : Nat) => .int k, []) S1 := by
  rw [denI, wp_bd]; congr 1; funext x S1
  cases x <;> simp
@[simp] theorem dI_2 (a b : E) : wp (denI (.it2 a b) ρ S) R = wp (den a ρ S) fun x S1 => wp (den b ρ S1) fun y S2 => ∃ i j, x = .int i ∧ y = .int j ∧ (j ≤ 2 ^ 60 ∧ -(2 ^ 60) ≤ j ∧ i ≤ 2 ^ 60 ∧ -(2 ^ 60) ≤ i) ∧ R ((List.range (j - i).toNat).map fun (k : Nat) => .int (i + k), []) S2 := by
  rw [denI, wp_bd]; congr 1; funext x S1
  rw [wp_bd]; congr 1; funext y S2
  cases x <;> cases y <;> simp
@[simp] theorem dI_3 (a b c : E) : wp (denI (.it3 a b c) ρ S) R = wp (den a ρ S) fun x S1 => wp (den b ρ S1) fun y S2 => wp (den c ρ S2) fun z S3 => ∃ i j, x = .int i ∧ y = .int j ∧ z = .int (-1) ∧ (j ≤ 2 ^ 60 ∧ -(2 ^ 60) ≤ j ∧ i ≤ 2 ^ 60 ∧ -(2 ^ 60) ≤ i) ∧ R ((List.range (i - j).toNat).map fun (k : Nat) => .int (i - k), []) S3 := by
  rw [denI, wp_bd]; congr 1; funext x S1
  rw [wp_bd]; congr 1; funext y S2
  rw [wp_bd]; congr 1; funext z S3
  cases x <;> cases y <;> cases z <;> simp
  rename_i i j k
  by_cases hk : k = -1
  · subst hk; simp
  · simp [hk]
@[simp] theorem dI_en (e : E) : wp (denI (.ien e) ρ S) R = wp (den e ρ S) fun x S1 => wp (enD x S1) R := by
  rw [denI]; simp
end

/-- a block's end -/
def ws (o : OS) (N : Ev → Store → Prop) (R : AV → Store → Prop) (C B : Ev → Store → Prop) : Prop := match o with
  | .nx ρ S => N ρ S
  | .rt a S => R a S
  | .ct ρ S => C ρ S
  | .bk ρ S => B ρ S
  | _ => False
section
variable (ρ : Ev) (S : Store) (N : Ev → Store → Prop) (R : AV → Store → Prop) (C B : Ev → Store → Prop)
@[simp] theorem ws_nx : ws (.nx ρ S) N R C B = N ρ S := rfl
@[simp] theorem ws_rt (a : AV) : ws (.rt a S) N R C B = R a S := rfl
@[simp] theorem ws_ct : ws (.ct ρ S) N R C B = C ρ S := rfl
@[simp] theorem ws_bk : ws (.bk ρ S) N R C B = B ρ S := rfl
@[simp] theorem ws_no : ws .no N R C B = False := rfl
@[simp] theorem ws_ex (c : AV) : ws (.ex c ρ S) N R C B = False := rfl
@[simp] theorem ws_st (x : Out AV) (f : AV → Store → OS) : ws (x.st ρ f) N R C B = wp x fun a S => ws (f a S) N R C B := by
  cases x <;> simp
@[simp] theorem s_nil : ws (denS .nil ρ S) N R C B = N ρ S := by rw [denS]; simp
@[simp] theorem s_cons (s r : St) : ws (denS (.cons s r) ρ S) N R C B = ws (denS s ρ S) (fun ρ1 S1 => ws (denS r ρ1 S1) N R C B) R C B := by
  rw [denS]
  cases denS s ρ S <;> simp
@[simp] theorem s_asg (t : Tg) (e : E) : ws (denS (.asg t e) ρ S) N R C B = wp (den e ρ S) fun a S1 => ∃ ρ1, tgD t a ρ = some ρ1 ∧ N ρ1 S1 := by
  rw [denS, ws_st]; congr 1; funext a S1
  cases tgD t a ρ <;> simp
@[simp] theorem s_aug (i : Nat) (o : BOp) (e : E) : ws (denS (.aug i o e) ρ S) N R C B = ∃ x, ρ[i]? = some (some x) ∧ wp (den e ρ S) fun y S1 => ∃ k l, x = .int k ∧ y = .int l ∧ wp (binD false o (.int k) (.int l) S1) fun z S2 => N (ρ.set i (some z)) S2 := by
  rw [denS]
  cases h : ρ[i]? with
  | none => simp
  | some x => cases x with
    | none => simp
    | some x =>
      simp only [ws_st, Option.some.injEq, exists_eq_left']
      congr 1; funext y S1
      cases x <;> cases y <;> simp
@[simp] theorem s_set (a i e : E) : ws (denS (.set a i e) ρ S) N R C B = wp (den e ρ S) fun v S1 => wp (den a ρ S1) fun x S2 => wp (den i ρ S2) fun y S3 => ∃ S4, setD x y v S3 = some S4 ∧ N ρ S4 := by
  rw [denS, ws_st]; congr 1; funext v S1
  rw [ws_st]; congr 1; funext x S2
  rw [ws_st]; congr 1; funext y S3
  cases setD x y v S3 <;> simp
@[simp] theorem s_ex (e : E) : ws (denS (.ex e) ρ S) N R C B = wp (den e ρ S) fun _ S1 => N ρ S1 := by rw [denS]; simp
@[simp] theorem s_ret (e : E) : ws (denS (.ret e) ρ S) N R C B = wp (den e ρ S) fun a S1 => R a S1 := by rw [denS]; simp
@[simp] theorem s_ifs (c : E) (a b : St) : ws (denS (.ifs c a b) ρ S) N R C B = wp (den c ρ S) fun x S1 => ∃ t, truth S1 x = some t ∧ (t = true → ws (denS a ρ S1) N R C B) ∧ (t = false → ws (denS b ρ S1) N R C B) := by
  rw [denS, ws_st, wp_tru]; congr 1; funext x S1
  cases truth S1 x with
  | none => simp
  | some t => cases t <;> simp
theorem s_lock {f : Ev → Store → Option Nat} {a : St} {i : Nat} {l : List (Key × AV)} (h1 : f ρ S = some i) (h2 : S[i]? = some (.dct false l)) : denS (.lock f a) ρ S = unlk i (denS a ρ (S.set i (.dct true l))) := by
  rw [denS]
  simp only [h1, h2]
@[simp] theorem s_for (t : Tg) (it : E) (b : St) : ws (denS (.for t it b) ρ S) N R C B = wp (denI it ρ S) fun w S1 => ws (forD t (fun ρ S => denS b ρ S) w.2 w.1 ρ S1) N R C B := by
  rw [denS]
  cases denI it ρ S <;> simp
@[simp] theorem s_whl (c : E) (b : St) : ws (denS (.whl c b) ρ S) N R C B = ws (whlD (fun ρ S => truD (den c ρ S)) (fun ρ S => denS b ρ S) ρ S) N R C B := by rw [denS]
@[simp] theorem s_brk : ws (denS .brk ρ S) N R C B = B ρ S := by rw [denS]; simp
@[simp] theorem s_cont : ws (denS .cont ρ S) N R C B = C ρ S := by rw [denS]; simp
@[simp] theorem s_pass : ws (denS .pass ρ S) N R C B = N ρ S := by rw [denS]; simp
end
theorem ws.mono {o : OS} {N N' : Ev → Store → Prop} {R R' : AV → Store → Prop} {C C' B B' : Ev → Store → Prop} (h : ws o N R C B) (hN : ∀ ρ S, N ρ S → N' ρ S) (hR : ∀ ρ S, R ρ S → R' ρ S) (hC : ∀ ρ S, C ρ S → C' ρ S) (hB : ∀ ρ S, B ρ S → B' ρ S) : ws o N' R' C' B' := by
  cases o <;> simp_all
/-- one statement first, what comes behind it unseen -/
theorem ws_cons {s r : St} {ρ : Ev} {S : Store} {N : Ev → Store → Prop} {R : AV → Store → Prop} {C B : Ev → Store → Prop} (h : ∀ M : Ev → Store → Prop, (∀ ρ1 S1, ws (denS r ρ1 S1) N R C B → M ρ1 S1) → ws (denS s ρ S) M R C B) : ws (denS (.cons s r) ρ S) N R C B := by
  rw [s_cons]
  exact h _ fun _ _ q => q
theorem ws_seq {s r : St} {ρ : Ev} {S : Store} {N : Ev → Store → Prop} {R : AV → Store → Prop} {C B : Ev → Store → Prop} (I : Ev → Store → Prop) (h : ∀ M : Ev → Store → Prop, (∀ ρ S, I ρ S → M ρ S) → ws (denS s ρ S) M R C B) (k : ∀ ρ1 S1, I ρ1 S1 → ws (denS r ρ1 S1) N R C B) : ws (denS (.cons s r) ρ S) N R C B := by
  rw [s_cons]
  exact (h I fun _ _ q => q).mono k (fun _ _ q => q) (fun _ _ q => q) (fun _ _ q => q)

/-- a walk over a list: what holds behind k of its items -/
theorem wp_for {t : Tg} {b : Ev → Store → OS} {gs : List (Nat × List AV)} {N : Ev → Store → Prop} {R : AV → Store → Prop} {C B : Ev → Store → Prop} (I : Nat → Ev → Store → Prop) {l : List AV} {ρ : Ev} {S : Store} (h0 : I 0 ρ S)
    (hg : ∀ k ρ S, I k ρ S → Gd gs S)
    (hs : ∀ k a ρ S, l[k]? = some a → I k ρ S → ∃ ρ1, tgD t a ρ = some ρ1 ∧ ws (b ρ1 S) (I (k + 1)) R (I (k + 1)) N) (he : ∀ ρ S, I l.length ρ S → N ρ S) : ws (forD t b gs l ρ S) N R C B := by
  induction l generalizing ρ S I with
  | nil => rw [forD, if_pos (hg _ _ _ h0)]; exact he _ _ h0
  | cons a l ih =>
    rw [forD, if_pos (hg _ _ _ h0)]
    obtain ⟨ρ1, e1, h1⟩ := hs 0 a ρ S rfl h0
    rw [e1]
    show ws (match b ρ1 S with | .nx ρ2 S2 => _ | .ct ρ2 S2 => _ | .bk ρ2 S2 => _ | o => o) N R C B
    have go : ∀ ρ2 S2, I 1 ρ2 S2 → ws (forD t b gs l ρ2 S2) N R C B := fun ρ2 S2 q => ih (fun k => I (k + 1)) q (fun k => hg (k + 1)) (fun k a ρ S hk => hs (k + 1) a ρ S (by simpa using hk)) he
    cases e : b ρ1 S with
    | nx ρ2 S2 => rw [e] at h1; exact go _ _ h1
    | ct ρ2 S2 => rw [e] at h1; exact go _ _ h1
    | bk ρ2 S2 => rw [e] at h1; exact h1
    | rt a S2 => rw [e] at h1; exact h1
    | ex c ρ2 S2 => rw [e] at h1; exact h1
    | no => rw [e] at h1; exact h1
/-- .. of a loop: something that falls -/
theorem wp_whl {c : Ev → Store → Out AV} {b : Ev → Store → OS} {N : Ev → Store → Prop} {R : AV → Store → Prop} {C B : Ev → Store → Prop} (I : Nat → Ev → Store → Prop)
    (hs : ∀ m ρ S, I m ρ S → wp (c ρ S) fun x S1 => ∃ t, x = .bl t ∧ (t = false → N ρ S1) ∧ (t = true → ws (b ρ S1) (fun ρ2 S2 => ∃ n, n < m ∧ I n ρ2 S2) R (fun ρ2 S2 => ∃ n, n < m ∧ I n ρ2 S2) N)) : ∀ (m : Nat) (ρ : Ev) (S : Store), I m ρ S → ws (whlD c b ρ S) N R C B := by
  intro m
  induction m using Nat.strongRecOn with
  | ind m ih =>
    intro ρ S h
    rw [whlD_step]
    unfold whlT
    obtain ⟨x, S1, e, t, rfl, hf, ht⟩ := hs m ρ S h
    rw [e]
    cases t with
    | false => exact hf rfl
    | true =>
      have q := ht rfl
      have go : ∀ ρ2 S2, (∃ n, n < m ∧ I n ρ2 S2) → ws (whlD c b ρ2 S2) N R C B := fun ρ2 S2 ⟨n, hn, hi⟩ => ih n hn ρ2 S2 hi
      show ws (match b ρ S1 with | .nx ρ2 S2 => _ | .ct ρ2 S2 => _ | .bk ρ2 S2 => _ | o => o) N R C B
      cases e2 : b ρ S1 with
      | nx ρ2 S2 => rw [e2] at q; exact go _ _ q
      | ct ρ2 S2 => rw [e2] at q; exact go _ _ q
      | bk ρ2 S2 => rw [e2] at q; exact q
      | rt a S2 => rw [e2] at q; exact q
      | ex c ρ2 S2 => rw [e2] at q; exact q
      | no => rw [e2] at q; exact q
/-- a comprehension that changes nothing -/
theorem comp_pure {α : Type} {t : Tg} {e cd : Ev → Store → Out AV} {gs : List (Nat × List AV)} {ρ : Ev} {S : Store} (c : α → AV) (p : α → Bool) (f : α → AV) (hg : Gd gs S) :
    ∀ xs : List α, xs.length ≤ sizeLine → (∀ a ∈ xs, ∃ ρ1, tgD t (c a) ρ = some ρ1 ∧ wp (cd ρ1 S) (fun v S1 => v = .bl (p a) ∧ S1 = S) ∧ (p a = true → wp (e ρ1 S) fun v S1 => v = f a ∧ S1 = S)) →
      compD t e cd gs ρ (xs.map c) S = .ok ((xs.filter p).map f) S
  | [], _, _ => by rw [List.map_nil, compD, if_pos hg]; rfl
  | a :: xs, hl, h => by
    simp only [List.length_cons] at hl
    have ih := comp_pure (t := t) (ρ := ρ) (e := e) (cd := cd) c p f hg xs (by omega) fun a ha => h a (.tail _ ha)
    obtain ⟨ρ1, e1, ⟨v, S1, e2, rfl, rfl⟩, h3⟩ := h a (.head _)
    rw [List.map_cons, compD, if_pos hg, e1]
    simp only [e2, bd_ok]
    cases hp : p a with
    | false => simp only [ih]; rw [List.filter_cons_of_neg (by simp [hp])]
    | true =>
      obtain ⟨v, S1, e4, rfl, rfl⟩ := h3 hp
      simp only [e4, bd_ok, ih]
      rw [List.filter_cons_of_pos hp, if_pos]
      · rfl
      · have := List.length_filter_le p xs
        simp only [List.length_map]; omega
/-- .. that changes something -/
theorem comp_st {α : Type} {t : Tg} {e cd : Ev → Store → Out AV} {gs : List (Nat × List AV)} {ρ : Ev} (c : α → AV) (f : α → AV) (I : Store → Prop) (hg : ∀ S, I S → Gd gs S) :
    ∀ (xs : List α) (S : Store), I S → xs.length ≤ sizeLine → (∀ a ∈ xs, ∀ S, I S → ∃ ρ1, tgD t (c a) ρ = some ρ1 ∧ wp (cd ρ1 S) (fun v S1 => I S1 ∧ ∃ b, v = .bl b ∧ (b = true → wp (e ρ1 S1) fun v S2 => v = f a ∧ I S2))) →
      wp (compD t e cd gs ρ (xs.map c) S) fun l S' => I S' ∧ ∃ ys : List α, ys.Sublist xs ∧ l = ys.map f
  | [], S, hI, _, _ => by rw [List.map_nil, compD, if_pos (hg _ hI)]; rw [wp_ok]; exact ⟨hI, [], List.Sublist.slnil, rfl⟩
  | a :: xs, S, hI, hl, h => by
    simp only [List.length_cons] at hl
    have ih := fun S hI => comp_st (t := t) (ρ := ρ) (e := e) (cd := cd) c f I hg xs S hI (by omega) fun a ha => h a (.tail _ ha)
    obtain ⟨ρ1, e1, v, S1, e2, h2, b, rfl, h3⟩ := h a (.head _) S hI
    rw [List.map_cons, compD, if_pos (hg _ hI), e1]
    simp only [e2, bd_ok]
    cases b with
    | false =>
      refine (ih S1 h2).mono ?_
      rintro l S' ⟨q, ys, r, rfl⟩
      exact ⟨q, ys, r.cons _, rfl⟩
    | true =>
      obtain ⟨v, S2, e4, rfl, h5⟩ := h3 rfl
      simp only [e4, bd_ok, wp_bd]
      refine (ih S2 h5).mono ?_
      rintro l S' ⟨q, ys, r, rfl⟩
      have := r.length_le
      rw [if_pos (by simp only [List.length_map]; omega)]
      simp only [wp_ok]
      exact ⟨q, a :: ys, r.cons₂ _, rfl⟩

/-- what a call gives back -/
def Fin (S : Store) (r : AV) (S' : Store) (Q : AV → Store → Prop) : Prop := TrOk S S' ∧ ∃ r', frz 4 S.length S' r = some r' ∧ Q r' (S'.take S.length)
theorem wp_fn {np n : Nat} {b : St} {as : List AV} {S : Store} {Q : AV → Store → Prop} (h : as.length = np) (k : ws (denS b (as.map some ++ List.replicate (n - np) none) S) (fun _ S' => Fin S .non S' Q) (fun r S' => Fin S r S' Q) (fun _ _ => False) fun _ _ => False) : wp (mkFn false np n b as S) Q := by
  unfold mkFn
  rw [if_pos h]
  cases e : denS b (as.map some ++ List.replicate (n - np) none) S <;> rw [e] at k
  all_goals first
    | exact False.elim k
    | (obtain ⟨k1, r', k2, k3⟩ := k
       simp only [fin]
       rw [if_neg (by decide), if_pos k1]
       simp only [k2, wp_ok]
       exact k3)
theorem wp_fnK {np n : Nat} {b : St} {as : List AV} {S : Store} {Q : AV → Store → Prop} (h : as.length = np) (k : ws (denS b (as.map some ++ List.replicate (n - np) none) S) (fun _ S' => Q .non S') (fun r S' => Q r S') (fun _ _ => False) fun _ _ => False) : wp (mkFn true np n b as S) Q := by
  unfold mkFn
  rw [if_pos h]
  cases e : denS b (as.map some ++ List.replicate (n - np) none) S <;> rw [e] at k
  all_goals first
    | exact False.elim k
    | (simp only [fin, if_pos, wp_ok]; exact k)
theorem Fin.pure {S : Store} {r : AV} {Q : AV → Store → Prop} (h : r.noLoc = true) (q : Q r S) : Fin S r S Q :=
  ⟨⟨Nat.le_refl _, fun i _ => .inl rfl⟩, r, frz_of h, by simpa using q⟩
theorem Fin.app {S T : Store} {r : AV} {Q : AV → Store → Prop} (h : r.noLoc = true) (q : Q r S) : Fin S r (S ++ T) Q :=
  ⟨⟨by simp, fun i hi => .inl (by simp [List.getElem?_append_left hi])⟩, r, frz_of h, by simpa using q⟩
theorem Fin.setA {S T : Store} {r : AV} {i : Nat} {o : AObj} {Q : AV → Store → Prop} (h : r.noLoc = true) (ho : o.noLoc = true) (q : Q r (S.set i o)) : Fin S r (S.set i o ++ T) Q := by
  refine ⟨⟨by simp, fun j hj => ?_⟩, r, frz_of h, ?_⟩
  · rw [List.getElem?_append_left (by simpa using hj), List.getElem?_set]
    split
    · rename_i e; subst e
      rw [if_pos hj]; exact .inr ⟨_, rfl, ho⟩
    · exact .inl rfl
  · have := List.take_left' (l₁ := S.set i o) (l₂ := T) (i := S.length) (by simp)
    rw [this]; exact q
theorem Fin.set {S : Store} {r : AV} {i : Nat} {o : AObj} {Q : AV → Store → Prop} (h : r.noLoc = true) (ho : o.noLoc = true) (q : Q r (S.set i o)) : Fin S r (S.set i o) Q := by
  have := Fin.setA (T := []) h ho q
  simpa using this
end VI

set_option maxRecDepth 100000
/-! VI14: what the single steps of our language do, one by one. -/
namespace VI
open PySem L2
section
variable (m : Bool) (S : Store) (i j : Int) (Q : AV → Store → Prop)
@[simp] theorem b_add : binD m .add (.int i) (.int j) S = .ok (.int (i + j)) S := rfl
@[simp] theorem b_sub : binD m .sub (.int i) (.int j) S = .ok (.int (i - j)) S := rfl
@[simp] theorem b_mul : binD m .mul (.int i) (.int j) S = if Fit i ∧ Fit j then .ok (.int (i * j)) S else .no := rfl
@[simp] theorem b_div : binD m .fdiv (.int i) (.int j) S = if 0 < j ∧ Fit j then .ok (.int (i / j)) S else .no := rfl
@[simp] theorem b_mod : binD m .mod (.int i) (.int j) S = if 0 < j then .ok (.int (i % j)) S else .no := rfl
@[simp] theorem b_shl : binD m .shl (.int i) (.int j) S = if 0 ≤ j ∧ j ≤ 1000 ∧ i.natAbs ≤ 1000 then .ok (.int (i * 2 ^ j.toNat)) S else .no := rfl
@[simp] theorem b_shr : binD m .shr (.int i) (.int j) S = if 0 ≤ j then .ok (.int (i / 2 ^ j.toNat)) S else .no := rfl
@[simp] theorem b_band : binD m .band (.int i) (.int j) S = if 0 ≤ i ∧ j = 1 then .ok (.int (i % 2)) S else .no := rfl
@[simp] theorem b_pow : binD m .pow (.int i) (.int j) S = if 0 ≤ j ∧ j ≤ 1000 ∧ i.natAbs ≤ 1000 then .ok (.int (i ^ j.toNat)) S else .no := rfl
@[simp] theorem b_addT (l k : List AV) : binD m .add (.tup l) (.tup k) S = if l.length + k.length ≤ sizeLine then .ok (.tup (l ++ k)) S else .no := rfl
@[simp] theorem b_addL (l : List AV) (b : AV) : binD m .add (.lst l) b S = optD (lstOf S b) fun k => if l.length + k.length ≤ sizeLine then mkL m (l ++ k) S else .no := by
  cases b <;> rfl
@[simp] theorem b_addO (p : Nat) (b : AV) : binD m .add (.loc p) b S = optD (lstOf S (.loc p)) fun l => optD (lstOf S b) fun k => if l.length + k.length ≤ sizeLine then mkL m (l ++ k) S else .no := by
  cases b <;> rfl
@[simp] theorem b_mulL (l : List AV) : binD m .mul (.lst l) (.int j) S = if 0 ≤ j ∧ j ≤ 10000000 ∧ l.length * j.toNat ≤ sizeLine then mkL m (List.replicate j.toNat l).flatten S else .no := rfl
@[simp] theorem c_lt : cmpD .lt (.int i) (.int j) S = some (decide (i < j)) := rfl
@[simp] theorem c_le : cmpD .le (.int i) (.int j) S = some (decide (i ≤ j)) := rfl
@[simp] theorem c_gt : cmpD .gt (.int i) (.int j) S = some (decide (j < i)) := rfl
@[simp] theorem c_ge : cmpD .ge (.int i) (.int j) S = some (decide (j ≤ i)) := rfl
@[simp] theorem c_eq (a b : AV) : cmpD .eq a b S = eqD S a b := rfl
@[simp] theorem c_ne (a b : AV) : cmpD .ne a b S = (eqD S a b).map (!·) := rfl
@[simp] theorem c_in (a b : AV) : cmpD .isin a b S = inD S a b := rfl
@[simp] theorem c_nin (a b : AV) : cmpD .nin a b S = (inD S a b).map (!·) := rfl
@[simp] theorem c_is0 : cmpD .is .non .non S = some true := rfl
@[simp] theorem c_is1 : cmpD .is (.int i) .non S = some false := rfl
@[simp] theorem c_is2 (l : List AV) : cmpD .is (.tup l) .non S = some false := rfl
@[simp] theorem c_is3 (l : List AV) : cmpD .is (.lst l) .non S = some false := rfl
@[simp] theorem c_is4 (n : Nat) : cmpD .is (.loc n) .non S = some false := rfl
@[simp] theorem c_isB (i j : Bool) : cmpD .is (.bl i) (.bl j) S = some (decide (i = j)) := rfl
@[simp] theorem c_isnB (i j : Bool) : cmpD .isn (.bl i) (.bl j) S = some (!decide (i = j)) := rfl
@[simp] theorem c_isn0 : cmpD .isn .non .non S = some false := rfl
@[simp] theorem c_isn1 : cmpD .isn (.int i) .non S = some true := rfl
@[simp] theorem c_isn2 (l : List AV) : cmpD .isn (.tup l) .non S = some true := rfl
@[simp] theorem c_isn3 (l : List AV) : cmpD .isn (.lst l) .non S = some true := rfl
@[simp] theorem c_isn4 (n : Nat) : cmpD .isn (.loc n) .non S = some true := rfl
@[simp] theorem t_non : truth S .non = some false := rfl
@[simp] theorem t_bl (b : Bool) : truth S (.bl b) = some b := rfl
@[simp] theorem t_int : truth S (.int i) = some (decide (i ≠ 0)) := rfl
@[simp] theorem t_tup (l : List AV) : truth S (.tup l) = some (!l.isEmpty) := rfl
@[simp] theorem t_lst (l : List AV) : truth S (.lst l) = some (!l.isEmpty) := rfl
@[simp] theorem t_scr (l : List Int) : truth S (.scr l) = some (!l.isEmpty) := rfl
def trO : Option AObj → Option Bool
  | some (.lst l) => some (!l.isEmpty)
  | some (.dct false l) => some (!l.isEmpty)
  | _ => none
@[simp] theorem t_loc (n : Nat) : truth S (.loc n) = trO S[n]? := by
  cases h : S[n]? with
  | none => simp only [truth, h, trO]
  | some o => rcases o with _ | ⟨_ | _, _⟩ | _ | _ <;> simp only [truth, h, trO]
@[simp] theorem trO_l (l : List AV) : trO (some (.lst l)) = some (!l.isEmpty) := rfl
def optL : Option AObj → Option (List AV)
  | some (.lst l) => some l
  | _ => none
@[simp] theorem optL_l (l : List AV) : optL (some (.lst l)) = some l := rfl
@[simp] theorem l_lst (l : List AV) : lstOf S (.lst l) = some l := rfl
@[simp] theorem l_tup (l : List AV) : lstOf S (.tup l) = none := rfl
@[simp] theorem l_loc (n : Nat) : lstOf S (.loc n) = optL S[n]? := by
  cases h : S[n]? with
  | none => simp only [lstOf, h, optL]
  | some o => rcases o with _ | _ | _ | _ <;> simp only [lstOf, h, optL]
@[simp] theorem w_lst (l : List AV) : walkOf S (.lst l) = some (l, []) := rfl
@[simp] theorem w_tup (l : List AV) : walkOf S (.tup l) = some (l, []) := rfl
@[simp] theorem w_ktp (l : List AV) : walkOf S (.ktp l) = some (l, []) := rfl
@[simp] theorem w_scr (l : List Int) : walkOf S (.scr l) = some (l.map .int, []) := rfl
@[simp] theorem w_loc (n : Nat) : walkOf S (.loc n) = (optL S[n]?).map fun l => (l, [(n, l)]) := by
  cases h : S[n]? with
  | none => simp only [walkOf, h, optL, Option.map_none]
  | some o => rcases o with _ | _ | _ | _ <;> simp only [walkOf, h, optL, Option.map_none, Option.map_some]
@[simp] theorem en_tup (l : List AV) : enD (.tup l) S = .ok (l.mapIdx fun k x => .tup [.int k, x], []) S := rfl
@[simp] theorem en_lst (l : List AV) : enD (.lst l) S = .ok (l.mapIdx fun k x => .tup [.int k, x], []) S := rfl
@[simp] theorem en_loc (n : Nat) : enD (.loc n) S = optD (lstOf S (.loc n)) fun l => .ok (l.mapIdx fun k x => .tup [.int k, x], [(n, l)]) S := rfl
def ixO (o : Option AObj) (k : Int) (S : Store) : Out AV := match o with
  | some (.lst l) => optD (atI l k) fun v => .ok v S
  | some (.dct _ l) => optD (lookK (.inl k) l) fun v => .ok v S
  | _ => .no
@[simp] theorem ixO_l (l : List AV) (k : Int) : ixO (some (.lst l)) k S = optD (atI l k) fun v => .ok v S := rfl
@[simp] theorem x_loc (n : Nat) : ixD (.loc n) (.int i) S = ixO S[n]? i S := by
  cases h : S[n]? with
  | none => simp only [ixD, h, ixO]
  | some o => rcases o with _ | _ | _ | _ <;> simp only [ixD, h, ixO]
@[simp] theorem x_tup (l : List AV) : ixD (.tup l) (.int i) S = optD (atI l i) fun v => .ok v S := rfl
@[simp] theorem x_lst (l : List AV) : ixD (.lst l) (.int i) S = optD (atI l i) fun v => .ok v S := rfl
@[simp] theorem x_ktp (l : List AV) : ixD (.ktp l) (.int i) S = optD (atI l i) fun v => .ok v S := rfl
@[simp] theorem x_scr (l : List Int) : ixD (.scr l) (.int i) S = optD (atI (l.map AV.int) i) fun v => .ok v S := rfl
def lnO : Option AObj → Option Nat
  | some (.lst l) => some l.length
  | some (.dct false l) => some l.length
  | _ => none
@[simp] theorem lnO_l (l : List AV) : lnO (some (.lst l)) = some l.length := rfl
@[simp] theorem n_loc (n : Nat) : lenD S (.loc n) = lnO S[n]? := by
  cases h : S[n]? with
  | none => simp only [lenD, h, lnO]
  | some o => rcases o with _ | ⟨_ | _, _⟩ | _ | _ <;> simp only [lenD, h, lnO]
@[simp] theorem n_tup (l : List AV) : lenD S (.tup l) = some l.length := rfl
@[simp] theorem n_lst (l : List AV) : lenD S (.lst l) = some l.length := rfl
@[simp] theorem n_ktp (l : List AV) : lenD S (.ktp l) = some l.length := rfl
@[simp] theorem n_scr (l : List Int) : lenD S (.scr l) = some l.length := by simp [lenD, itemsOf]
@[simp] theorem p_len (a : AV) : primD m .len [a] S = optD (lenD S a) fun n => .ok (.int n) S := rfl
@[simp] theorem p_abs : primD m .abs [.int i] S = .ok (.int (if i < 0 then -i else i)) S := rfl
@[simp] theorem p_min : primD m .min2 [.int i, .int j] S = .ok (.int (if j < i then j else i)) S := rfl
@[simp] theorem p_max : primD m .max2 [.int i, .int j] S = .ok (.int (if i < j then j else i)) S := rfl
@[simp] theorem p_minL (a : AV) : primD m .minL [a] S = optD (lstOf S a) fun l => optD (intsOf l) fun ns => optD (leastI ns) fun i => .ok (.int i) S := rfl
@[simp] theorem p_sumT (l : List AV) : primD m .sumT [.tup l] S = optD (intsOf l) fun ns => .ok (.int ns.sum) S := rfl
@[simp] theorem p_minI (l : List AV) : primD m .minI [.tup l] S = optD (intsOf l) fun ns => optD (leastI ns) fun i => .ok (.int i) S := rfl
@[simp] theorem p_minT (a : AV) : primD m .minT [a] S = optD (lstOf S a) fun l => if likeT l = true then optD (minA l) fun r => .ok r S else .no := rfl
@[simp] theorem p_sortT (a : AV) : primD m .sortT [a] S = optD (lstOf S a) fun l => if likeT l = true then mkL m (l.mergeSort leA) S else .no := rfl
@[simp] theorem p_maxL (a : AV) : primD m .maxL [a] S = optD (lstOf S a) fun l => optD (intsOf l) fun ns => optD (mostI ns) fun i => .ok (.int i) S := rfl
@[simp] theorem p_sum (a : AV) : primD m .sum [a] S = optD (lstOf S a) fun l => optD (intsOf l) fun ns => .ok (.int ns.sum) S := rfl
@[simp] theorem p_sorted (a : AV) : primD m .sorted [a] S = optD (lstOf S a) fun l => optD (intsOf l) fun ns => mkL m ((sortI ns).map .int) S := rfl
@[simp] theorem p_tupT (l : List AV) : primD m .tuple [.tup l] S = .ok (.tup l) S := rfl
@[simp] theorem p_tupL (l : List AV) : primD m .tuple [.lst l] S = .ok (.tup l) S := rfl
@[simp] theorem p_tupO (n : Nat) : primD m .tuple [.loc n] S = optD (lstOf S (.loc n)) fun l => .ok (.tup l) S := rfl
@[simp] theorem p_lstT (l : List AV) : primD m .list [.tup l] S = mkL m l S := rfl
@[simp] theorem p_lstL (l : List AV) : primD m .list [.lst l] S = mkL m l S := rfl
@[simp] theorem p_lstO (n : Nat) : primD m .list [.loc n] S = optD (lstOf S (.loc n)) fun l => mkL m l S := rfl
@[simp] theorem p_int : primD m .int [.int i] S = .ok (.int i) S := rfl
@[simp] theorem p_intB (b : Bool) : primD m .int [.bl b] S = .ok (.int (if b then 1 else 0)) S := rfl
@[simp] theorem p_all (a : AV) : primD m .all [a] S = optD (lstOf S a) fun l => optD (blsOf l) fun bs => .ok (.bl (bs.all id)) S := rfl
@[simp] theorem p_any (a : AV) : primD m .any [a] S = optD (lstOf S a) fun l => optD (blsOf l) fun bs => .ok (.bl (bs.any id)) S := rfl
@[simp] theorem p_dm : primD m .divmod [.int i, .int j] S = if 0 < j ∧ j < 1073741824 then .ok (.tup [.int (i / j), .int (i % j)]) S else .no := rfl
@[simp] theorem p_isi (a : AV) (n : String) : primD m .isi [a, .ty n] S = if tyB n = true then optD (isTy S n a) fun b => .ok (.bl b) S else .no := rfl
@[simp] theorem y_bl (n : String) (b : Bool) : isTy S n (.bl b) = some (n == "int" || n == "bool") := rfl
@[simp] theorem y_int (n : String) : isTy S n (.int i) = some (n == "int") := rfl
@[simp] theorem y_non (n : String) : isTy S n .non = some false := rfl
@[simp] theorem y_tup (n : String) (l : List AV) : isTy S n (.tup l) = some (n == "tuple") := rfl
@[simp] theorem y_lst (n : String) (l : List AV) : isTy S n (.lst l) = some (n == "list") := rfl
def apO (o : Option AObj) (p : Nat) (a : AV) (S : Store) : Out AV := match o with
  | some (.lst l) => if l.length < sizeLine then .ok .non (S.set p (.lst (l ++ [a]))) else .no
  | _ => .no
@[simp] theorem apO_l (l : List AV) (p : Nat) (a : AV) : apO (some (.lst l)) p a S = if l.length < sizeLine then .ok .non (S.set p (.lst (l ++ [a]))) else .no := rfl
@[simp] theorem m_app (n : Nat) (a : AV) : mthD m .append (.loc n) [a] S = apO S[n]? n a S := by
  cases h : S[n]? with
  | none => simp only [mthD, h, apO]
  | some o => rcases o with _ | _ | _ | _ <;> simp only [mthD, h, apO]
def ppO (o : Option AObj) (p : Nat) (S : Store) : Out AV := match o with
  | some (.lst l) => optD l[l.length - 1]? fun v => .ok v (S.set p (.lst l.dropLast))
  | _ => .no
@[simp] theorem ppO_l (l : List AV) (p : Nat) : ppO (some (.lst l)) p S = optD l[l.length - 1]? fun v => .ok v (S.set p (.lst l.dropLast)) := rfl
@[simp] theorem m_pop0 (n : Nat) : mthD m .pop0 (.loc n) [] S = ppO S[n]? n S := by
  cases h : S[n]? with
  | none => simp only [mthD, h, ppO]
  | some o => rcases o with _ | _ | _ | _ <;> simp only [mthD, h, ppO]
def pkO (o : Option AObj) (p : Nat) (k : Int) (S : Store) : Out AV := match o with
  | some (.lst l) => if -(2 ^ 63) ≤ k ∧ k < 2 ^ 63 then optD (seqIndex? k l.length) fun j => optD l[j]? fun v => .ok v (S.set p (.lst (l.eraseIdx j))) else .no
  | _ => .no
@[simp] theorem pkO_l (l : List AV) (p : Nat) (k : Int) : pkO (some (.lst l)) p k S = if -(2 ^ 63) ≤ k ∧ k < 2 ^ 63 then optD (seqIndex? k l.length) fun j => optD l[j]? fun v => .ok v (S.set p (.lst (l.eraseIdx j))) else .no := rfl
@[simp] theorem m_pop (n : Nat) : mthD m .pop (.loc n) [.int i] S = pkO S[n]? n i S := by
  cases h : S[n]? with
  | none => simp only [mthD, h, pkO]
  | some o => rcases o with _ | _ | _ | _ <;> simp only [mthD, h, pkO]
@[simp] theorem r_loc (p : Mth) (n : Nat) (h : p = .append ∨ p = .pop0 ∨ p = .pop) : rcvOk p S (.loc n) = (optL S[n]?).isSome := by
  rw [← l_loc]
  rcases h with rfl | rfl | rfl <;> rfl
@[simp] theorem r_idx2 (S : Store) (a : AV) : rcvOk .index2 S a = (lstOf S a).isSome := rfl
@[simp] theorem r_cnt (S : Store) (a : AV) : rcvOk .count S a = (lstOf S a).isSome := rfl
@[simp] theorem r_idx (S : Store) (a : AV) : rcvOk .index S a = (lstOf S a).isSome := rfl
theorem m_idx {m : Bool} {S : Store} {a : AV} {ns : List Int} {k : Int} (h : lstOf S a = some (ns.map .int)) (hk : k ∈ ns) : mthD m .index a [.int k] S = .ok (.int (ns.idxOf k : Nat)) S := by
  have : mthD m .index a [.int k] S = intsD S a fun ns => if k ∈ ns then .ok (.int (ns.idxOf k : Nat)) S else .no := by cases a <;> rfl
  rw [this]
  unfold intsD
  rw [h, optD_some, intsOf_map, optD_some, if_pos hk]
theorem m_idx2 {m : Bool} {S : Store} {a : AV} {ns : List Int} {k i : Int} (h : lstOf S a = some (ns.map .int)) (h0 : 0 ≤ i) (h1 : i ≤ 1000000) (hk : k ∈ ns.drop i.toNat) : mthD m .index2 a [.int k, .int i] S = .ok (.int (i.toNat + (ns.drop i.toNat).idxOf k : Nat)) S := by
  have : mthD m .index2 a [.int k, .int i] S = intsD S a fun ns => if 0 ≤ i ∧ i ≤ 1000000 ∧ k ∈ ns.drop i.toNat then .ok (.int (i.toNat + (ns.drop i.toNat).idxOf k : Nat)) S else .no := by cases a <;> rfl
  rw [this]
  unfold intsD
  rw [h, optD_some, intsOf_map, optD_some, if_pos ⟨h0, h1, hk⟩]
theorem m_cnt {m : Bool} {S : Store} {a : AV} {ns : List Int} {k : Int} (h : lstOf S a = some (ns.map .int)) : mthD m .count a [.int k] S = .ok (.int (ns.count k : Nat)) S := by
  have : mthD m .count a [.int k] S = intsD S a fun ns => .ok (.int (ns.count k : Nat)) S := by cases a <;> rfl
  rw [this]
  unfold intsD
  rw [h, optD_some, intsOf_map, optD_some]
def stO (o : Option AObj) (p : Nat) (k : Int) (v : AV) (S : Store) : Option Store := match o with
  | some (.lst l) => (ixN l.length k).map fun j => S.set p (.lst (l.set j v))
  | some (.dct false l) => if l.length < sizeLine then some (S.set p (.dct false (putA (.inl k) v l))) else none
  | _ => none
@[simp] theorem stO_l (l : List AV) (p : Nat) (k : Int) (v : AV) : stO (some (.lst l)) p k v S = (ixN l.length k).map fun j => S.set p (.lst (l.set j v)) := rfl
@[simp] theorem u_loc (n : Nat) (v : AV) : setD (.loc n) (.int i) v S = stO S[n]? n i v S := by
  cases h : S[n]? with
  | none => simp only [setD, h, stO]
  | some o =>
    rcases o with l | ⟨_ | _, _⟩ | _ | _ <;> simp only [setD, h, stO]
    cases h : ixN l.length i <;> rfl
end
@[simp] theorem atI_0 (a : AV) (l : List AV) : atI (a :: l) 0 = some a := atI_nat (j := 0) rfl
@[simp] theorem atI_1 (a b : AV) (l : List AV) : atI (a :: b :: l) 1 = some b := atI_nat (j := 1) rfl
@[simp] theorem atI_2 (a b c : AV) (l : List AV) : atI (a :: b :: c :: l) 2 = some c := atI_nat (j := 2) rfl
@[simp] theorem atI_3 (a b c d : AV) (l : List AV) : atI (a :: b :: c :: d :: l) 3 = some d := atI_nat (j := 3) rfl
@[simp] theorem atI_4 (a b c d e : AV) (l : List AV) : atI (a :: b :: c :: d :: e :: l) 4 = some e := atI_nat (j := 4) rfl
theorem atI_in {l : List AV} {i : Int} (h0 : 0 ≤ i) (h : i.toNat < l.length) : atI l i = some l[i.toNat] := by
  have := atI_nat (xs := l) (j := i.toNat) (List.getElem?_eq_getElem h)
  rwa [Int.toNat_of_nonneg h0] at this
theorem ixN_in {n : Nat} {i : Int} (h0 : 0 ≤ i) (h : i.toNat < n) : ixN n i = some i.toNat := by
  unfold ixN
  rw [if_pos h0, if_pos (by omega)]
@[simp] theorem tg_n (i : Nat) (a : AV) (ρ : Ev) : tgD (.n i) a ρ = some (ρ.set i (some a)) := by rw [tgD]
@[simp] theorem tg_tup (t : Tg) (l : List AV) (ρ : Ev) : tgD (.tup t) (.tup l) ρ = tgsD t l ρ := by rw [tgD]
@[simp] theorem tgs_nil (ρ : Ev) : tgsD .nil [] ρ = some ρ := by rw [tgsD]
@[simp] theorem tgs_cons (t r : Tg) (a : AV) (l : List AV) (ρ : Ev) : tgsD (.cons t r) (a :: l) ρ = (tgD t a ρ).bind fun ρ1 => tgsD r l ρ1 := by
  rw [tgsD]; cases tgD t a ρ <;> rfl
@[simp] theorem wipe_nil (ρ : Ev) : wipeE ρ [] = ρ := rfl
@[simp] theorem wipe_cons (ρ : Ev) (v : Nat) (vs : List Nat) : wipeE ρ (v :: vs) = (wipeE ρ vs).set v none := rfl
@[simp] theorem cd_t (m : Ev → Store → Out AV) (ρ : Ev) (S : Store) : cdD true m ρ S = .ok (.bl true) S := rfl
@[simp] theorem cd_f (m : Ev → Store → Out AV) (ρ : Ev) (S : Store) : cdD false m ρ S = truD (m ρ S) := rfl

@[simp] theorem nl_non : AV.noLoc .non = true := rfl
@[simp] theorem nl_bl (b : Bool) : AV.noLoc (.bl b) = true := rfl
@[simp] theorem nl_int (i : Int) : AV.noLoc (.int i) = true := rfl
@[simp] theorem nl_str (x : Str) : AV.noLoc (.str x) = true := rfl
theorem nls_iff {l : List AV} : noLocs l = true ↔ ∀ a ∈ l, a.noLoc = true := by
  induction l with
  | nil => simp [noLocs]
  | cons a l ih => simp [noLocs, ih]
theorem nl_tup {l : List AV} : (AV.tup l).noLoc = true ↔ ∀ a ∈ l, a.noLoc = true := by rw [← nls_iff]; rfl
theorem nl_lst {l : List AV} : (AV.lst l).noLoc = true ↔ ∀ a ∈ l, a.noLoc = true := by rw [← nls_iff]; rfl
theorem nl_ints (l : List Int) : noLocs (l.map .int) = true := nls_iff.2 (by simp)
@[simp] theorem e_int (S : Store) (i j : Int) : eqD S (.int i) (.int j) = some (decide (i = j)) := by
  unfold eqD
  rw [frz_of rfl, frz_of rfl]
  simp only [dep, eqv, and_self, if_true]
  by_cases h : i = j <;> simp [h]
@[simp] theorem e_bl (S : Store) (i j : Bool) : eqD S (.bl i) (.bl j) = some (decide (i = j)) := by
  unfold eqD
  rw [frz_of rfl, frz_of rfl]
  simp only [dep, eqv, and_self, if_true]
  by_cases h : i = j <;> simp [h]
theorem eqvs_ints : ∀ xs ys : List Int, eqvs (xs.map .int) (ys.map .int) = decide (xs = ys)
  | [], [] => by simp [eqvs]
  | [], _ :: _ => by simp [eqvs]
  | _ :: _, [] => by simp [eqvs]
  | x :: xs, y :: ys => by
    simp only [List.map_cons, eqvs, eqv, eqvs_ints xs ys]
    by_cases h : x = y <;> simp [h]
theorem mapM_some {α β : Type} {f : α → Option β} {g : α → β} : ∀ {l : List α}, (∀ a ∈ l, f a = some (g a)) → l.mapM f = some (l.map g)
  | [], _ => rfl
  | a :: l, h => by
    rw [List.mapM_cons, h a (.head _), mapM_some fun b hb => h b (.tail _ hb)]; rfl
/-- a list of ints, wherever it lies -/
theorem frz_ints {S : Store} {a : AV} {xs : List Int} (h : lstOf S a = some (xs.map .int)) : frz 4 0 S a = some (.lst (xs.map .int)) := by
  cases a with
  | lst l =>
    simp only [l_lst, Option.some.injEq] at h
    subst h
    exact frz_of (nl_ints _)
  | loc i =>
    have e : S[i]? = some (.lst (xs.map .int)) := by
      simp only [lstOf] at h
      split at h
      · rename_i e; simp_all
      · cases h
    unfold frz
    rw [if_neg (by simp [AV.noLoc])]
    simp only [Nat.not_lt_zero, if_false, e]
    rw [mapM_some (g := id) fun a ha => by obtain ⟨k, _, rfl⟩ := List.mem_map.1 ha; exact frz_of rfl]
    simp
  | _ => cases h
theorem dep_ints (k : Nat) (xs : List Int) : dep (k + 1) (.lst (xs.map .int)) = true := by simp [dep]
theorem e_ints {S : Store} {a b : AV} {xs ys : List Int} (h : lstOf S a = some (xs.map .int)) (k : lstOf S b = some (ys.map .int)) : eqD S a b = some (decide (xs = ys)) := by
  unfold eqD
  rw [frz_ints h, frz_ints k]
  simp only [dep_ints, and_self, if_true, eqv, eqvs_ints]
theorem e_intT (S : Store) (xs ys : List Int) : eqD S (.tup (xs.map .int)) (.tup (ys.map .int)) = some (decide (xs = ys)) := by
  unfold eqD
  rw [frz_of (show (AV.tup (xs.map .int)).noLoc = true from nl_ints _), frz_of (show (AV.tup (ys.map .int)).noLoc = true from nl_ints _)]
  have : ∀ xs : List Int, dep 8 (.tup (xs.map .int)) = true := fun xs => by simp [dep]
  simp only [this, and_self, if_true, eqv, eqvs_ints]
theorem any_eqv (i : Int) (xs : List Int) : (xs.map AV.int).any (eqv (.int i)) = decide (i ∈ xs) := by
  induction xs with
  | nil => rfl
  | cons x xs ih =>
    rw [List.map_cons, List.any_cons, ih]
    show ((i == x) || decide (i ∈ xs)) = _
    by_cases h : i = x <;> simp [h]
theorem flat_ints (xs : List Int) : (xs.map AV.int).all flatA = true := by simp [flatA]
@[simp] theorem in_lst (S : Store) (i : Int) (xs : List Int) : inD S (.int i) (.lst (xs.map .int)) = some (decide (i ∈ xs)) := by
  simp only [inD, flat_ints, any_eqv]; simp [flatA]
@[simp] theorem in_tup (S : Store) (i : Int) (xs : List Int) : inD S (.int i) (.tup (xs.map .int)) = some (decide (i ∈ xs)) := by
  simp only [inD, flat_ints, any_eqv]; simp [flatA]
theorem in_loc {S : Store} {n : Nat} {xs : List Int} (h : S[n]? = some (.lst (xs.map .int))) (i : Int) : inD S (.int i) (.loc n) = some (decide (i ∈ xs)) := by
  simp only [inD, h, flat_ints, any_eqv]; simp [flatA]
theorem iq_tup (S : Store) (l : List AV) (f : List Int → Out AV) : intsQ S (.tup l) f = optD (intsOf l) f := rfl
theorem iq_lst (S : Store) (l : List AV) (f : List Int → Out AV) : intsQ S (.lst l) f = optD (intsOf l) f := rfl
theorem iq_loc (S : Store) (n : Nat) (f : List Int → Out AV) : intsQ S (.loc n) f = intsD S (.loc n) f := rfl
@[simp] theorem intsOf_m (l : List Int) : intsOf (l.map .int) = some l := intsOf_map l
@[simp] theorem intsOf_f {α : Type} (f : α → Int) (l : List α) : intsOf (l.map fun a => .int (f a)) = some (l.map f) := by
  have : (l.map fun a => AV.int (f a)) = (l.map f).map AV.int := by simp [Function.comp_def]
  rw [this, intsOf_map]
@[simp] theorem intsOf_c {α : Type} (f : α → Int) (l : List α) : intsOf (l.map (AV.int ∘ f)) = some (l.map f) := intsOf_f f l
@[simp] theorem intsOf_a : ∀ a b : List AV, intsOf (a ++ b) = (intsOf a).bind fun x => (intsOf b).map (x ++ ·)
  | [], b => by simp [intsOf]
  | x :: a, b => by
    cases x with
    | int i =>
      simp only [List.cons_append, intsOf, intsOf_a a b]
      cases intsOf a <;> cases intsOf b <;> simp
    | _ => simp [intsOf]
@[simp] theorem intsOf_nil : intsOf [] = some [] := rfl
@[simp] theorem intsOf_cons (i : Int) (l : List AV) : intsOf (.int i :: l) = (intsOf l).map (i :: ·) := rfl
@[simp] theorem blsOf_m (l : List Bool) : blsOf (l.map .bl) = some l := blsOf_map l
theorem fit_of {i : Int} (h0 : 0 ≤ i) (h : i < (10 ^ 60) * (10 ^ 60)) : Fit i := by
  show i.natAbs < 2 ^ 8000
  have h2 : i.natAbs < 10 ^ 60 * 10 ^ 60 := by omega
  exact Nat.lt_of_lt_of_le h2 (Nat.le_trans (show 10 ^ 60 * 10 ^ 60 ≤ 2 ^ 400 by decide +kernel) (Nat.pow_le_pow_right (by decide) (by decide)))
end VI

set_option maxRecDepth 100000
/-! VI15: walks over lists that came of lists of our own; what stands in a store. -/
namespace VI
open PySem L2
theorem wp_forM {α : Type} {t : Tg} {b : Ev → Store → OS} {gs : List (Nat × List AV)} {N : Ev → Store → Prop} {R : AV → Store → Prop} {C B : Ev → Store → Prop} (c : α → AV) (xs : List α) (I : Nat → Ev → Store → Prop) {ρ : Ev} {S : Store} (h0 : I 0 ρ S)
    (hg : ∀ k ρ S, I k ρ S → Gd gs S)
    (hs : ∀ k a ρ S, xs[k]? = some a → I k ρ S → ∀ M : Ev → Store → Prop, (∀ ρ S, I (k + 1) ρ S → M ρ S) → ∃ ρ1, tgD t (c a) ρ = some ρ1 ∧ ws (b ρ1 S) M R M N) (he : ∀ ρ S, I xs.length ρ S → N ρ S) : ws (forD t b gs (xs.map c) ρ S) N R C B := by
  refine wp_for I h0 hg (fun k a ρ S h q => ?_) (fun ρ S q => he ρ S (by simpa using q))
  rw [List.getElem?_map] at h
  cases e : xs[k]? with
  | none => rw [e] at h; cases h
  | some x => rw [e] at h; cases h; exact hs k x ρ S e q _ fun _ _ q => q
theorem mem_take {α : Type} {xs : List α} {k : Nat} {a p : α} (h : xs[k]? = some a) : p ∈ xs.take (k + 1) ↔ p ∈ xs.take k ∨ p = a := by
  rw [List.take_succ, h]; simp
/-- a walk that needs no count, over things each of which is good -/
theorem wp_forE {α : Type} {t : Tg} {b : Ev → Store → OS} {gs : List (Nat × List AV)} {N : Ev → Store → Prop} {R : AV → Store → Prop} {C B : Ev → Store → Prop} (c : α → AV) (xs : List α) (I : Ev → Store → Prop) {ρ : Ev} {S : Store} (h0 : I ρ S)
    (hg : ∀ ρ S, I ρ S → Gd gs S)
    (hs : ∀ a ρ S, a ∈ xs → I ρ S → ∀ M : Ev → Store → Prop, (∀ ρ S, I ρ S → M ρ S) → ∃ ρ1, tgD t (c a) ρ = some ρ1 ∧ ws (b ρ1 S) M R M N) (he : ∀ ρ S, I ρ S → N ρ S) : ws (forD t b gs (xs.map c) ρ S) N R C B :=
  wp_forM c xs (fun _ => I) h0 (fun _ => hg) (fun k a ρ S h q => hs a ρ S (List.mem_of_getElem? h) q) he
theorem set_l0 {α : Type} (S : List α) (a b : α) (T : List α) : (S ++ a :: T).set S.length b = S ++ b :: T := by simp [List.set_append_right]
theorem set_l1 {α : Type} (S : List α) (x a b : α) (T : List α) : (S ++ x :: a :: T).set (S.length + 1) b = S ++ x :: b :: T := by simp [List.set_append_right]
theorem get_l0 {α : Type} (S : List α) (a : α) (T : List α) : (S ++ a :: T)[S.length]? = some a := by simp
theorem get_l1 {α : Type} (S : List α) (x a : α) (T : List α) : (S ++ x :: a :: T)[S.length + 1]? = some a := by simp [List.getElem?_append_right]
theorem lt_of_get {α : Type} {S : List α} {i : Nat} {a : α} (h : S[i]? = some a) : i < S.length := by
  by_cases hi : i < S.length
  · exact hi
  · rw [List.getElem?_eq_none (by omega)] at h; cases h
/-- the comprehension that makes ints of ints -/
theorem comp_ii {t : Tg} {e cd : Ev → Store → Out AV} {gs : List (Nat × List AV)} {ρ : Ev} {S : Store} (p : Int → Bool) (f : Int → Int) (hg : Gd gs S) (xs : List Int) (hl : xs.length ≤ sizeLine)
    (h : ∀ a ∈ xs, ∃ ρ1, tgD t (.int a) ρ = some ρ1 ∧ wp (cd ρ1 S) (fun v S1 => v = .bl (p a) ∧ S1 = S) ∧ (p a = true → wp (e ρ1 S) fun v S1 => v = .int (f a) ∧ S1 = S)) :
    compD t e cd gs ρ (xs.map .int) S = .ok (((xs.filter p).map f).map .int) S := by
  rw [comp_pure AV.int p (fun a => .int (f a)) hg xs hl h, List.map_map]; rfl
/-- 0, 1, .. below n, as ints -/
def rangeI (n : Int) : List Int := (List.range n.toNat).map fun (k : Nat) => (k : Int)
theorem rangeI_av (n : Int) : ((List.range n.toNat).map fun (k : Nat) => AV.int k) = (rangeI n).map .int := by simp [rangeI]
theorem mem_rangeI {n x : Int} : x ∈ rangeI n ↔ 0 ≤ x ∧ x < n := by
  simp only [rangeI, List.mem_map, List.mem_range]
  constructor
  · rintro ⟨k, h, rfl⟩; omega
  · rintro ⟨h0, h1⟩; exact ⟨x.toNat, by omega, by omega⟩
theorem len_rangeI (n : Int) : (rangeI n).length = n.toNat := by simp [rangeI]
theorem sizeL {n : Nat} (h : n ≤ 10000000) : n ≤ sizeLine := Nat.le_trans h (by decide)
theorem sizeLt {n : Nat} (h : n ≤ 10000000) : n < sizeLine := Nat.lt_of_le_of_lt h (by decide)
end VI

set_option maxRecDepth 100000
set_option maxHeartbeats 1000000
/-! VF: forms: more of the text that our language speaks of. -/
namespace VI
open PySem PySem.Spec PyProof.Rows L2 RZ

/-! what forms mean -/
@[simp] theorem d_ext (F : Form) (l : E) (ρ : Ev) (S : Store) : den (.ext F l) ρ S = F.sem (denF l) ρ S := by rw [den]
@[simp] theorem dI_ext (F : FormI) (l : E) (ρ : Ev) (S : Store) : denI (.iext F l) ρ S = F.sem (denF l) ρ S := by rw [denI]
@[simp] theorem s_ext (F : FormS) (l : E) (ρ : Ev) (S : Store) : denS (.ext F l) ρ S = F.sem (denF l) ρ S := by rw [denS]
@[simp] theorem dF_nil : denF .nil = [] := by rw [denF]; simp
@[simp] theorem dF_cons (a r : E) : denF (.cons a r) = (fun ρ S => den a ρ S) :: denF r := by rw [denF]

section
variable {ρ : Ev} {S : Store} {R : List AV × List (Nat × List AV) → Store → Prop}
@[simp] theorem dI_zp (a b : E) : wp (denI (.izp a b) ρ S) R = wp (den a ρ S) fun x S1 => wp (den b ρ S1) fun y S2 => wp (zipD x y S2 fun l k gs => .ok ((l.zip k).map fun p => .tup [p.1, p.2], gs) S2) R := by
  rw [denI]; simp
end
@[simp] theorem zip_tt {β : Type} (l k : List AV) (S : Store) (f : List AV → List AV → List (Nat × List AV) → Out β) : zipD (.tup l) (.tup k) S f = f l k [] := rfl
/-- a test that comes to t, then one of two blocks, unopened -/
theorem ws_if {c : E} {a b : St} {ρ : Ev} {S : Store} {N : Ev → Store → Prop} {R : AV → Store → Prop} {C B : Ev → Store → Prop} {t : Bool} (h : ∀ Q : AV → Store → Prop, Q (.bl t) S → wp (den c ρ S) Q) (h1 : t = true → ws (denS a ρ S) N R C B) (h2 : t = false → ws (denS b ρ S) N R C B) : ws (denS (.ifs c a b) ρ S) N R C B := by
  rw [s_ifs]
  exact h _ ⟨t, rfl, h1, h2⟩
theorem cutA_to {l : List AV} {k : Int} (h : 0 ≤ k) : cutA l none (some k) = l.take k.toNat := by
  have e1 : HT.sIx l.length 0 none = 0 := rfl
  have e2 : HT.sIx l.length l.length (some k) = min k.toNat l.length := by
    show (if k < 0 then (k + (l.length : Int)).toNat else min k.toNat l.length) = _
    rw [if_neg (by omega)]
  unfold cutA
  rw [e1, e2, List.drop_zero, Nat.sub_zero]
  by_cases q : k.toNat ≤ l.length
  · rw [Nat.min_eq_left q]
  · rw [Nat.min_eq_right (by omega), List.take_of_length_le (Nat.le_refl _), List.take_of_length_le (by omega)]
theorem cutA_from {l : List AV} {k : Int} (h : 0 ≤ k) : cutA l (some k) none = l.drop k.toNat := by
  have e1 : HT.sIx l.length 0 (some k) = min k.toNat l.length := by
    show (if k < 0 then (k + (l.length : Int)).toNat else min k.toNat l.length) = _
    rw [if_neg (by omega)]
  have e2 : HT.sIx l.length l.length none = l.length := rfl
  unfold cutA
  rw [e1, e2]
  by_cases q : k.toNat ≤ l.length
  · rw [Nat.min_eq_left q, List.take_of_length_le (by simp)]
  · rw [Nat.min_eq_right (by omega), List.drop_of_length_le (Nat.le_refl _), List.drop_of_length_le (by omega)]; simp
/-! ### enumerate(zip(a, b)) -/
section
variable {K : PySem.W.Frag} {W0 : Wd}
/-- .. lists or tuples whose content stays -/
def Ks (K : PySem.W.Frag) (t : Bool) (W0 : Wd) (a : Addr) (l : List AV) (gs : List (Nat × List AV)) : Prop := ∀ W S, Lw W0 W → Rep K W S → Gd gs S → ∃ xs, sqAt t K W.H a xs ∧ RVs K W l xs
theorem wk_enz {t : Bool} {a b : Addr} {l k : List AV} {g h : List (Nat × List AV)} (ha : Ks K t W0 a l g) (hb : Ks K t W0 b k h) : WkOk K W0 ((l.zip k).mapIdx fun j p => .tup [.int j, .tup [p.1, p.2]]) (g ++ h) (ItE K t a b) := by
  refine ⟨fun H => ∃ xs ys, sqAt t K H a xs ∧ sqAt t K H b ys ∧ l.length = xs.length ∧ k.length = ys.length, (ItE K t a b).yld, ⟨fun i H hi G => ?_, fun H G => ?_, fun _ _ _ _ _ _ y => y⟩, fun W S L R q => ?_, fun W S i x H' L R q y => ?_⟩
  · obtain ⟨xs, ys, h1, h2, h3, h4⟩ := G
    have hi' : i < min l.length k.length := by simpa using hi
    have hx : i < xs.length := by omega
    have hy : i < ys.length := by omega
    exact ⟨xs, ys, xs[i], ys[i], h1, h2, by simp [hx], by simp [hy]⟩
  · obtain ⟨xs, ys, h1, h2, h3, h4⟩ := G
    exact ⟨xs, ys, h1, h2, by simp; omega⟩
  · obtain ⟨xs, h1, h2⟩ := ha W S L R q.left
    obtain ⟨ys, h3, h4⟩ := hb W S L R q.right
    exact ⟨xs, ys, h1, h3, h2.len, h4.len⟩
  · obtain ⟨xs, h1, h2⟩ := ha W S L R q.left
    obtain ⟨ys, h3, h4⟩ := hb W S L R q.right
    obtain ⟨T, U, x', y', rfl, hU, hT, hne, rfl, k1, k2⟩ := y
    obtain ⟨c, e1, r1⟩ := h2.getV (k1 xs h1)
    obtain ⟨d, e2, r2⟩ := h4.getV (k2 ys h3)
    obtain ⟨W1, q1, q2, q3, q4⟩ := pair_told R hU rfl r1 r2
    have hT1 : W1.H T = none := by rw [q1, upd_ne hne]; exact hT
    obtain ⟨W2, p1, p2, p3, p4⟩ := pair_told (H' := upd W1.H T (.tup [.int (i : Nat), .ref U])) q3 hT1 rfl (.int (i : Nat)) q4
    have ez : (l.zip k)[i]? = some (c, d) := List.getElem?_zip_eq_some.mpr ⟨e1, e2⟩
    exact ⟨W2, .tup [.int (i : Nat), .tup [c, d]], by rw [p1, q1], q2.trans p2, p3, by rw [List.getElem?_mapIdx, ez]; rfl, p4⟩
end
def fiEnz : FormI where
  mat := fun sc tg e => match tg, e with
    | .Tuple _ _ _, .Call (.Name r _) [.Call (.Name z _) [x, y] [] _] [] _ => if (decide (r = Str.ofString "enumerate") && decide (z = Str.ofString "zip") && glB sc r && glB sc z) = true then some [x, y] else none
    | _, _ => none
  sem := fun ms ρ S => match ms with
    | [ma, mb] => (ma ρ S).bd fun x S1 => (mb ρ S1).bd fun y S2 => zipD x y S2 fun l k gs => .ok ((l.zip k).mapIdx fun j p => .tup [.int j, .tup [p.1, p.2]], gs) S2
    | _ => .no
section
variable {P : Program} {w : World} {K : PySem.W.Frag} {mg : Str → Option Value} {base : Heap} {k : Nat}
theorem PEs.two {X : Cx} {a b : Expr} {ms : List Dn} (h : PEs X [a, b] ms) : ∃ ma mb, ms = [ma, mb] ∧ PE X a (T X.K ma) ∧ PE X b (T X.K mb) ∧ odd a = false ∧ odd b = false := by
  rcases h with _ | ⟨h1, o1, _ | ⟨h2, o2, _ | _⟩⟩
  exact ⟨_, _, rfl, h1, h2, o1, o2⟩
theorem PEs.one {X : Cx} {a : Expr} {ms : List Dn} (h : PEs X [a] ms) : ∃ ma, ms = [ma] ∧ PE X a (T X.K ma) ∧ odd a = false := by
  rcases h with _ | ⟨h1, o1, _ | _⟩
  exact ⟨_, rfl, h1, o1⟩
theorem PEs.nil' {X : Cx} {ms : List Dn} (h : PEs X [] ms) : ms = [] := by cases h; rfl
theorem PEs.three {X : Cx} {a b c : Expr} {ms : List Dn} (h : PEs X [a, b, c] ms) : ∃ ma mb mc, ms = [ma, mb, mc] ∧ PE X a (T X.K ma) ∧ PE X b (T X.K mb) ∧ PE X c (T X.K mc) ∧ odd a = false ∧ odd b = false ∧ odd c = false := by
  rcases h with _ | ⟨h1, o1, _ | ⟨h2, o2, _ | ⟨h3, o3, _ | _⟩⟩⟩
  exact ⟨_, _, _, rfl, h1, h2, h3, o1, o2, o3⟩
/-- the rest as an argument list -/
theorem PEs.pa {X : Cx} : ∀ {es : List Expr} {ms : List Dn}, PEs X es ms → ∃ ml : Ev → Store → Out (List AV), PA X es (TL X.K ml)
  | _, _, .nil => ⟨_, pa_nilV⟩
  | _, _, .cons h o r => let ⟨_, q⟩ := r.pa; ⟨_, pa_consV h q o⟩
theorem fiEnz_ok (h1 : mg "enumerate" = none) (h2 : mg "zip" = none) : FormIOk P w K mg base k fiEnz := by
  intro N X sc tg e es ms g hm hp
  have h' : ∃ elts kk tp r p1 z p2 x y p3 p, tg = .Tuple elts kk tp ∧ e = .Call (.Name r p1) [.Call (.Name z p2) [x, y] [] p3] [] p ∧ es = [x, y] ∧ r = Str.ofString "enumerate" ∧ z = Str.ofString "zip" ∧ glB sc r = true ∧ glB sc z = true := by
    simp only [fiEnz] at hm
    split at hm
    · split at hm
      · rename_i hc
        simp only [Bool.and_eq_true, decide_eq_true_eq] at hc
        cases hm
        exact ⟨_, _, _, _, _, _, _, _, _, _, _, rfl, rfl, rfl, hc.1.1.1, hc.1.1.2, hc.1.2, hc.2⟩
      · cases hm
    · cases hm
  obtain ⟨elts, kk, tp, r, p1, z, p2, x, y, p3, p, rfl, rfl, rfl, rfl, rfl, g1, g2⟩ := h'
  obtain ⟨ma, mb, rfl, ha, hb, o1, o2⟩ := hp.two
  have q1 := g.gl g1
  have q2 := g.gl g2
  obtain ⟨rfl, rfl, rfl, rfl, rfl, -, -, -, -, -⟩ := g
  refine (pi_enz q1.1 h1 q2.1 h2 (pa_consV ha (pa_consV hb pa_nilV o2) o1) (odd_star o1) (backTo_any (by rw [odd_star o2]; rfl))).wk fun σ H R h => ?_
  obtain ⟨W, ρ, S, st, w', S', e, Q⟩ := h
  have e : ((ma ρ S).bd fun x S1 => (mb ρ S1).bd fun y S2 => zipD x y S2 fun l k gs => .ok ((l.zip k).mapIdx fun j p => AV.tup [.int j, .tup [p.1, p.2]], gs) S2) = .ok w' S' := e
  obtain ⟨x, S1, k1, e2⟩ := Out.bd_eq e
  obtain ⟨y, S2, k2, e3⟩ := Out.bd_eq e2
  have hS : S2 = S' := by
    rcases zipD_cases e3 with ⟨l, k, _, _, q⟩ | ⟨l, k, _, _, q⟩ <;> (cases q; rfl)
  subst hS
  refine ⟨W, ρ, S, st, [x, y], S2, by simp [k1, k2], fun W1 xs L1 R1 rs => ?_⟩
  rcases rs with _ | ⟨r1, _ | ⟨r2, _ | _⟩⟩
  rcases zipD_cases e3 with ⟨l, k, rfl, rfl, q⟩ | ⟨l, k, h3, h4, q⟩
  · cases q
    cases r1 with
    | tup h3 s1 t1 =>
      cases r2 with
      | tup h4 s2 t2 =>
        exact ⟨true, _, _, _, _, rfl, SqT.of h3, SqT.of h4, Q W1 _ L1 R1 (wk_enz (g := []) (h := []) (fun W2 S2 L2 _ _ => ⟨_, SqT.of (L2.stb _ _ h3 s1).1, t1.mw L2⟩) (fun W2 S2 L2 _ _ => ⟨_, SqT.of (L2.stb _ _ h4 s2).1, t2.mw L2⟩))⟩
  · cases q
    obtain ⟨p, rfl, q1, xs, q2⟩ := Kl.of R1 r1 h3
    obtain ⟨p', rfl, q3, ys, q4⟩ := Kl.of R1 r2 h4
    exact ⟨false, p, p', xs, ys, rfl, q2, q4, Q W1 _ L1 R1 (wk_enz (t := false) q1 q3)⟩
end
end VI

set_option maxRecDepth 100000
/-! LB: the bag of a script: drawn from, and made. -/
namespace VI
open PySem PySem.Spec PyProof.Rows L2
noncomputable def b_law_take : St :=
  (.cons (.ifs (.cmp .gt (.ix (.v 0) (.c (.int 0))) (.c (.int 0))) (.cons (.asg (.n 2) (.bin false .mod (.ix (.v 0) (.c (.int 0))) (.v 1)))
    (.cons (.set (.v 0) (.c (.int 0)) (.bin false .fdiv (.ix (.v 0) (.c (.int 0))) (.v 1)))
    (.cons (.ret (.v 2))
    .nil))) .nil)
    (.cons (.set (.v 0) (.c (.int 1)) (.bin false .mod (.bin false .mul (.ix (.v 0) (.c (.int 1))) (.c (.int 48271))) (.c (.int 2147483647))))
    (.cons (.ret (.bin false .mod (.bin false .fdiv (.bin false .mod (.bin false .mul (.ix (.v 0) (.c (.int 1))) (.ix (.v 0) (.c (.int 1)))) (.c (.int 2147483629))) (.c (.int 64))) (.v 1)))
    .nil)))
noncomputable def d_law_take : Fn := mkFn true 2 3 b_law_take

noncomputable def b_law_bag : St :=
  (.cons (.asg (.n 2) (.c (.int 0)))
    (.cons (.ifs (.cmp .lt (.v 1) (.prim false .len (.cons (.v 0) .nil))) (.cons (.asg (.n 2) (.bin false .mod (.ix (.v 0) (.v 1)) (.bin false .mul (.bin false .pow (.c (.int 10)) (.c (.int 60))) (.bin false .pow (.c (.int 10)) (.c (.int 60))))))
    .nil) .nil)
    (.cons (.ifs (.cmp .lt (.v 2) (.bin false .pow (.c (.int 10)) (.c (.int 18)))) (.cons (.ret (.lst true (.cons (.c (.int 0)) (.cons (.bin false .add (.c (.int 1)) (.bin false .mod (.bin false .add (.bin false .mul (.v 2) (.c (.int 7919))) (.bin false .mul (.c (.int 104729)) (.v 1))) (.c (.int 2147483646)))) .nil))))
    .nil) .nil)
    (.cons (.ret (.lst true (.cons (.v 2) (.cons (.bin false .add (.c (.int 1)) (.bin false .mod (.bin false .add (.v 2) (.v 1)) (.c (.int 2147483646)))) .nil))))
    .nil))))
noncomputable def d_law_bag : Fn := mkFn true 2 3 b_law_bag

def bagO (c g : Int) : AObj := .lst [.int c, .int g]
theorem bagO_nl (c g : Int) : (bagO c g).noLoc = true := rfl
def BagOk (c g : Int) : Prop := 0 ≤ c ∧ c < 10 ^ 60 * 10 ^ 60 ∧ 0 ≤ g ∧ g < 2147483647
theorem fit_c (k : Int) (h0 : 0 ≤ k) (h : k ≤ 2147483647000000) : Fit k := fit_of h0 (Int.lt_of_le_of_lt h (by decide +kernel))
theorem wp_take {S : Store} {i : Nat} {c g m : Int} {Q : AV → Store → Prop} (h : S[i]? = some (bagO c g)) (b : BagOk c g) (h0 : 0 < m) (hm : m < 10 ^ 60 * 10 ^ 60)
    (q : ∀ r c' g', 0 ≤ r → r < m → BagOk c' g' → Q (.int r) (S.set i (bagO c' g'))) : wp (d_law_take [.loc i, .int m] S) Q := by
  obtain ⟨b1, b2, b3, b4⟩ := b
  have hi : i < S.length := by
    by_cases hi : i < S.length
    · exact hi
    · rw [List.getElem?_eq_none (by omega)] at h; cases h
  have f1 : Fit m := fit_of (by omega) hm
  have f2 : Fit g := fit_c g b3 (by omega)
  have f4 : Fit 48271 := fit_c _ (by decide) (by decide)
  have f5 : Fit 64 := fit_c _ (by decide) (by decide)
  have x0 : 0 ≤ g * 48271 % 2147483647 := Int.emod_nonneg _ (by decide)
  have x1 : g * 48271 % 2147483647 < 2147483647 := Int.emod_lt_of_pos _ (by decide)
  have f3 : Fit (g * 48271 % 2147483647) := fit_c _ x0 (by omega)
  refine wp_fnK rfl ?_
  unfold bagO at h
  have e : ∀ o, (S.set i o)[i]? = some o := fun o => by simp [hi]
  have n0 : ixN 2 0 = some 0 := rfl
  have n1 : ixN 2 1 = some 1 := rfl
  simp [b_law_take, h, f1, f2, f3, f4, f5, h0, e, n0, n1]
  by_cases hc : 0 < c
  · exact .inr ⟨hc, q _ _ _ (Int.emod_nonneg _ (by omega)) (Int.emod_lt_of_pos _ h0) ⟨Int.ediv_nonneg b1 (by omega), Int.lt_of_le_of_lt (Int.ediv_le_self _ b1) b2, b3, b4⟩⟩
  · exact .inl ⟨by omega, q _ _ _ (Int.emod_nonneg _ (by omega)) (Int.emod_lt_of_pos _ h0) ⟨b1, b2, x0, x1⟩⟩
theorem wp_bag {S : Store} {ns : List Int} {k : Int} {Q : AV → Store → Prop} (h0 : 0 ≤ k) (hk : k ≤ 63) (q : ∀ c g, BagOk c g → Q (.loc S.length) (S ++ [bagO c g])) : wp (d_law_bag [.scr ns, .int k] S) Q := by
  refine wp_fnK rfl ?_
  have f1 : Fit (10 ^ 60) := fit_of (by decide +kernel) (by decide +kernel)
  have f2 : Fit 7919 := fit_c _ (by decide) (by decide)
  have f3 : Fit 104729 := fit_c _ (by decide) (by decide)
  have f4 : Fit k := fit_c _ h0 (by omega)
  have hT : (0 : Int) < 10 ^ 60 * 10 ^ 60 := by decide +kernel
  have main : ∀ cell : Int, 0 ≤ cell → cell < 10 ^ 60 * 10 ^ 60 → ws (denS (.cons (.ifs (.cmp .lt (.v 2) (.bin false .pow (.c (.int 10)) (.c (.int 18)))) (.cons (.ret (.lst true (.cons (.c (.int 0)) (.cons (.bin false .add (.c (.int 1)) (.bin false .mod (.bin false .add (.bin false .mul (.v 2) (.c (.int 7919))) (.bin false .mul (.c (.int 104729)) (.v 1))) (.c (.int 2147483646)))) .nil))))
    .nil) .nil)
    (.cons (.ret (.lst true (.cons (.v 2) (.cons (.bin false .add (.c (.int 1)) (.bin false .mod (.bin false .add (.v 2) (.v 1)) (.c (.int 2147483646)))) .nil))))
    .nil)) [some (.scr ns), some (.int k), some (.int cell)] S) (fun _ S' => Q .non S') (fun r S' => Q r S') (fun _ _ => False) fun _ _ => False := by
    intro cell c0 c1
    have f5 : Fit cell := fit_of c0 c1
    have hz : 2 ≤ sizeLine := by decide
    by_cases hc : cell < 10 ^ 18
    · simp [f2, f3, f4, f5, hz, -Int.reducePow]
      refine .inr ⟨hc, q _ _ ⟨by decide, hT, ?_, ?_⟩⟩
      · have := Int.emod_nonneg (cell * 7919 + 104729 * k) (b := 2147483646) (by decide); omega
      · have := Int.emod_lt_of_pos (cell * 7919 + 104729 * k) (b := 2147483646) (by decide); omega
    · simp [f2, f3, f4, f5, hz, -Int.reducePow]
      refine .inl ⟨by omega, q _ _ ⟨c0, c1, ?_, ?_⟩⟩
      · have := Int.emod_nonneg (cell + k) (b := 2147483646) (by decide); omega
      · have := Int.emod_lt_of_pos (cell + k) (b := 2147483646) (by decide); omega
  unfold b_law_bag
  refine ws_seq (fun ρ S1 => ρ = [some (.scr ns), some (.int k), some (.int 0)] ∧ S1 = S) (fun M hM => by simp; exact hM _ _ ⟨rfl, rfl⟩) ?_
  rintro ρ1 S1 ⟨e1, e2⟩
  rw [e1, e2]
  refine ws_seq (fun ρ S1 => S1 = S ∧ ∃ cell, 0 ≤ cell ∧ cell < 10 ^ 60 * 10 ^ 60 ∧ ρ = [some (.scr ns), some (.int k), some (.int cell)]) ?_ ?_
  · intro M hM
    by_cases hc : k < ns.length
    · have e := atI_in (l := ns.map AV.int) h0 (by simp; omega)
      simp only [List.getElem_map] at e
      simp [e, hc, f1, -Int.reducePow]
      exact ⟨hT, hM _ _ ⟨rfl, _, Int.emod_nonneg _ (Int.ne_of_gt hT), Int.emod_lt_of_pos _ hT, rfl⟩⟩
    · simp [hc, -Int.reducePow]
      exact hM _ _ ⟨rfl, 0, Int.le_refl _, hT, rfl⟩
  · rintro ρ1 S1 ⟨e1, cell, c0, c1, e2⟩
    rw [e1, e2]
    exact main cell c0 c1
end VI

set_option maxRecDepth 100000
/-! LL: lines, spans, places: what many laws ask. -/
namespace VI
open PySem PySem.Spec PyProof.Rows L2
noncomputable def b_length_of : St :=
  (.cons (.ret (.bin false .mul (.c (.int 2)) (.ix (.v 0) (.c (.int 0)))))
    .nil)
noncomputable def d_length_of : Fn := mkFn false 1 1 b_length_of

noncomputable def b_ends_of : St :=
  (.cons (.ret (.bin false .add (.bin false .add (.tup (.cons (.c (.int 0)) .nil)) (.ix (.v 0) (.c (.int 1)))) (.tup (.cons (.ix (.v 0) (.c (.int 0))) .nil))))
    .nil)
noncomputable def d_ends_of : Fn := mkFn false 1 1 b_ends_of

noncomputable def b_places_of : St :=
  (.cons (.asg (.tup (.cons (.n 2) (.cons (.n 3) .nil))) (.v 1))
    (.cons (.asg (.tup (.cons (.n 4) (.cons (.n 5) .nil))) (.sl false (.call (Str.ofString "ends_of") d_ends_of (.cons (.v 0) .nil)) (.v 3) (.bin false .add (.v 3) (.c (.int 2)))))
    (.cons (.ifs (.cmp .eq (.v 2) (.g (Str.ofString "OUT") (.str (Str.ofString "out")))) (.cons (.ret (.tup (.cons (.v 4) (.cons (.v 5) .nil))))
    .nil) .nil)
    (.cons (.ret (.tup (.cons (.bin false .sub (.call (Str.ofString "length_of") d_length_of (.cons (.v 0) .nil)) (.v 5)) (.cons (.bin false .sub (.call (Str.ofString "length_of") d_length_of (.cons (.v 0) .nil)) (.v 4)) .nil))))
    .nil))))
noncomputable def d_places_of : Fn := mkFn false 2 6 b_places_of

noncomputable def w_law_line_0 : St := (.cons (.ex (.met false .append (.v 3) (.cons (.bin false .add (.c (.int 1)) (.call (Str.ofString "_law_take") d_law_take (.cons (.v 0) (.cons (.bin false .sub (.v 2) (.c (.int 1))) .nil)))) .nil)))
    .nil)
noncomputable def b_law_line : St :=
  (.cons (.asg (.n 2) (.bin false .add (.c (.int 2)) (.call (Str.ofString "_law_take") d_law_take (.cons (.v 0) (.cons (.ix (.lst false (.cons (.c (.int 3)) (.cons (.c (.int 9)) (.cons (.bin false .sub (.v 1) (.c (.int 1))) .nil)))) (.call (Str.ofString "_law_take") d_law_take (.cons (.v 0) (.cons (.c (.int 3)) .nil)))) .nil)))))
    (.cons (.asg (.n 2) (.prim false .min2 (.cons (.v 2) (.cons (.v 1) .nil))))
    (.cons (.asg (.n 3) (.lst true .nil))
    (.cons (.for (.n 4) (.it1 (.call (Str.ofString "_law_take") d_law_take (.cons (.v 0) (.cons (.c (.int 9)) .nil)))) w_law_line_0)
    (.cons (.ret (.tup (.cons (.v 2) (.cons (.prim false .tuple (.cons (.sset false (.v 3)) .nil)) .nil))))
    .nil)))))
noncomputable def d_law_line : Fn := mkFn false 2 5 b_law_line

noncomputable def w_law_spans_0 : St := (.cons (.ex (.met false .append (.v 2) (.cons (.tup (.cons (.c (.str (Str.ofString "back"))) (.cons (.v 3) (.cons (.bin false .sub (.bin false .mul (.c (.int 2)) (.ix (.v 0) (.c (.int 0)))) (.ix (.v 1) (.bin false .add (.v 3) (.c (.int 1))))) (.cons (.bin false .sub (.bin false .mul (.c (.int 2)) (.ix (.v 0) (.c (.int 0)))) (.ix (.v 1) (.v 3))) .nil))))) .nil)))
    .nil)
noncomputable def c_law_spans_0 : E := (.comp true [3] (.n 3) (.it1 (.bin false .sub (.prim false .len (.cons (.v 1) .nil)) (.c (.int 1)))) (.tup (.cons (.c (.str (Str.ofString "out"))) (.cons (.v 3) (.cons (.ix (.v 1) (.v 3)) (.cons (.ix (.v 1) (.bin false .add (.v 3) (.c (.int 1)))) .nil))))) .nop)
noncomputable def b_law_spans : St :=
  (.cons (.asg (.n 1) (.bin false .add (.bin false .add (.lst false (.cons (.c (.int 0)) .nil)) (.prim false .list (.cons (.ix (.v 0) (.c (.int 1))) .nil))) (.lst false (.cons (.ix (.v 0) (.c (.int 0))) .nil))))
    (.cons (.asg (.n 2) c_law_spans_0)
    (.cons (.for (.n 3) (.itv (.rev false (.lrg false (.bin false .sub (.prim false .len (.cons (.v 1) .nil)) (.c (.int 1)))))) w_law_spans_0)
    (.cons (.ret (.v 2))
    .nil))))
noncomputable def d_law_spans : Fn := mkFn false 1 4 b_law_spans

/-! eqv of a thing with itself -/
theorem eqvs_self : ∀ {l : List AV}, (∀ a ∈ l, eqv a a = true) → eqvs l l = true
  | [], _ => by simp [eqvs]
  | a :: l, h => by
    rw [eqvs]
    simp [h a (.head _), eqvs_self fun b hb => h b (.tail _ hb)]
theorem eqv_self : ∀ (k : Nat) (a : AV), dep k a = true → eqv a a = true
  | _, .non, _ => by simp [eqv]
  | _, .bl b, _ => by simp [eqv]
  | _, .int i, _ => by simp [eqv]
  | _, .str x, _ => by simp [eqv]
  | k + 1, .tup l, h => by
    rw [eqv]
    simp only [dep, List.all_eq_true] at h
    exact eqvs_self fun a ha => eqv_self k a (h a ha)
  | k + 1, .lst l, h => by
    rw [eqv]
    simp only [dep, List.all_eq_true] at h
    exact eqvs_self fun a ha => eqv_self k a (h a ha)
  | 0, .tup l, h => by simp [dep] at h
  | 0, .lst l, h => by simp [dep] at h
  | 0, .ty _, h => by simp [dep] at h
  | 0, .loc _, h => by simp [dep] at h
  | 0, .scr _, h => by simp [dep] at h
  | 0, .ktp _, h => by simp [dep] at h
  | k + 1, .ty _, h => by simp [dep] at h
  | k + 1, .loc _, h => by simp [dep] at h
  | k + 1, .scr _, h => by simp [dep] at h
  | k + 1, .ktp _, h => by simp [dep] at h
  | 0, .ftp _, h => by simp [dep] at h
  | k + 1, .ftp _, h => by simp [dep] at h
theorem e_same {S : Store} {a b d : AV} (h : frz 4 0 S a = some d) (k : frz 4 0 S b = some d) (hd : dep 8 d = true) : eqD S a b = some true := by
  unfold eqD
  rw [h, k]
  simp [hd, eqv_self 8 d hd]
theorem frz_l {k n : Nat} {S : Store} {i : Nat} {l : List AV} (hi : ¬ i < n) (h : S[i]? = some (.lst l)) (hl : ∀ a ∈ l, a.noLoc = true) : frz (k + 1) n S (.loc i) = some (.lst l) := by
  unfold frz
  rw [if_neg (by simp [AV.noLoc])]
  simp only [if_neg hi, h]
  have := mapM_some (f := frz k n S) (g := id) (l := l) fun a ha => frz_of (hl a ha)
  rw [this]
  simp
theorem Fin.loc {S : Store} {l : List AV} {Q : AV → Store → Prop} (hl : ∀ a ∈ l, a.noLoc = true) (q : Q (.lst l) S) : Fin S (.loc S.length) (S ++ [.lst l]) Q :=
  ⟨⟨by simp, fun i hi => .inl (by simp [List.getElem?_append_left hi])⟩, _, frz_l (Nat.lt_irrefl _) (by simp) hl, by simpa using q⟩
/-! a line -/
def lineA (H : Int) (ps : List Int) : AV := .tup [.int H, .tup (ps.map .int)]
def LineOk (most H : Int) (ps : List Int) : Prop := 2 ≤ H ∧ H ≤ most ∧ ps.Pairwise (· < ·) ∧ (∀ p ∈ ps, 1 ≤ p ∧ p < H) ∧ ps.length ≤ 8
theorem len_insI (x : Int) : ∀ l : List Int, (insI x l).length = l.length + 1
  | [] => rfl
  | y :: l => by
    unfold insI
    split
    · rfl
    · simp [len_insI x l]
theorem len_sortI : ∀ l : List Int, (sortI l).length = l.length
  | [] => rfl
  | y :: l => by rw [sortI, len_insI, len_sortI l]; rfl
theorem len_dedI : ∀ l : List Int, (dedI l).length ≤ l.length
  | [] => Nat.le_refl _
  | y :: l => by
    unfold dedI
    have := len_dedI l
    split <;> simp <;> omega
theorem wp_line {S : Store} {i : Nat} {c g most : Int} {Q : AV → Store → Prop} (h : S[i]? = some (bagO c g)) (b : BagOk c g) (h1 : 2 ≤ most) (h2 : most ≤ 10000000)
    (q : ∀ (H : Int) (ps : List Int) (c' g' : Int), LineOk most H ps → BagOk c' g' → Q (lineA H ps) (S.set i (bagO c' g'))) : wp (d_law_line [.loc i, .int most] S) Q := by
  have hi := lt_of_get h
  have hz : ∀ n : Nat, n ≤ 100 → n ≤ sizeLine := fun n hn => sizeL (by omega)
  have big : ∀ m : Int, m ≤ 20000000 → m < 10 ^ 60 * 10 ^ 60 := fun m hm => Int.lt_of_le_of_lt hm (by decide +kernel)
  have gs : ∀ o : AObj, (S.set i o)[i]? = some o := fun o => by simp [hi]
  refine wp_fn rfl ?_
  unfold b_law_line
  refine ws_cons fun M hM => ?_
  simp [-Prod.forall, -Prod.exists, hz]
  refine wp_take h b (by decide) (big _ (by decide)) ?_
  intro r0 c g r00 r01 b
  obtain ⟨m, hm, m0, m1⟩ : ∃ m, atI [AV.int 3, AV.int 9, AV.int (most - 1)] r0 = some (.int m) ∧ 0 < m ∧ m ≤ 20000000 := by
    have : r0 = 0 ∨ r0 = 1 ∨ r0 = 2 := by omega
    rcases this with rfl | rfl | rfl
    · exact ⟨_, atI_0 _ _, by decide, by decide⟩
    · exact ⟨_, atI_1 _ _ _, by decide, by decide⟩
    · exact ⟨_, atI_2 _ _ _ _, by omega, by omega⟩
  simp [-Prod.forall, -Prod.exists, hm]
  refine wp_take (gs _) b m0 (big _ m1) ?_
  intro r c g r10 r11 b
  simp [-Prod.forall, -Prod.exists]
  refine hM _ _ ?_
  refine ws_cons fun M hM => ?_
  simp [-Prod.forall, -Prod.exists]
  refine hM _ _ ?_
  generalize hH : (if most < 2 + r then most else 2 + r) = H
  have hH1 : 2 ≤ H := by rw [← hH]; split <;> omega
  have hH2 : H ≤ most := by rw [← hH]; split <;> omega
  refine ws_cons fun M hM => ?_
  simp [-Prod.forall, -Prod.exists, hz]
  refine hM _ _ ?_
  refine ws_seq (fun ρ S' => ∃ (ps : List Int) (c' g' : Int) (x : Option AV), ps.length ≤ 8 ∧ (∀ p ∈ ps, 1 ≤ p ∧ p < H) ∧ BagOk c' g' ∧ S' = S.set i (bagO c' g') ++ [.lst (ps.map .int)] ∧ ρ = [some (.loc i), some (.int most), some (.int H), some (.loc S.length), x]) ?_ ?_
  · intro M hM
    simp [-Prod.forall, -Prod.exists]
    have e2 : ∀ (o x : AObj) , (S.set i o ++ [x])[i]? = some o := fun o x => by rw [List.getElem?_append_left (by simpa using hi)]; simp [hi]
    have e1 : ∀ (o o' x : AObj) , (S.set i o ++ [x]).set i o' = S.set i o' ++ [x] := fun o o' x => by rw [List.set_append_left _ _ (by simpa using hi), List.set_set]
    have e3 : ∀ (o x : AObj) , (S.set i o ++ [x])[S.length]? = some x := fun o x => by have := get_l0 (S.set i o) x []; simpa using this
    have e4 : ∀ (o x y : AObj) , (S.set i o ++ [x]).set S.length y = S.set i o ++ [y] := fun o x y => by have := set_l0 (S.set i o) x y []; simpa using this
    refine wp_take (e2 _ _) b (by decide) (big _ (by decide)) ?_
    intro r c1 g1 r0 r1 b1
    simp [-Prod.forall, -Prod.exists, e1]
    refine ⟨by omega, ?_⟩
    rw [rangeI_av]
    refine wp_forM AV.int (rangeI r) (fun k ρ S' => ∃ (ps : List Int) (c' g' : Int) (x : Option AV), ps.length ≤ k ∧ (∀ p ∈ ps, 1 ≤ p ∧ p < H) ∧ BagOk c' g' ∧ S' = S.set i (bagO c' g') ++ [.lst (ps.map .int)] ∧ ρ = [some (.loc i), some (.int most), some (.int H), some (.loc S.length), x]) ⟨[], c1, g1, _, by simp, by simp, b1, rfl, rfl⟩ (fun _ _ _ _ => by simp) ?_ ?_
    · rintro k a ρ S' ha ⟨ps, c2, g2, x, hk, hp, b2, rfl, rfl⟩ M2 hM2
      have hk8 : k < 8 := by
        have := lt_of_get ha
        rw [len_rangeI] at this
        omega
      simp [-Prod.forall, -Prod.exists, w_law_line_0, e3]
      refine wp_take (e2 _ _) b2 (by omega) (big _ (by omega)) ?_
      intro r3 c3 g3 r30 r31 b3
      simp [-Prod.forall, -Prod.exists, e1, e3, e4]
      refine ⟨sizeLt (by omega), hM2 _ _ ⟨ps ++ [1 + r3], c3, g3, _, by simp; omega, ?_, b3, by simp, rfl⟩⟩
      intro p hp'
      rcases List.mem_append.1 hp' with h | h
      · exact hp p h
      · rw [List.mem_singleton.1 h]; omega
    · rintro ρ S' ⟨ps, c2, g2, x, hk, hp, b2, rfl, rfl⟩
      rw [len_rangeI] at hk
      exact hM _ _ ⟨ps, c2, g2, x, by omega, hp, b2, rfl, rfl⟩
  · rintro ρ S' ⟨ps, c2, g2, x, hl, hp, b2, rfl, rfl⟩
    have e3 : ∀ (o x : AObj) , (S.set i o ++ [x])[S.length]? = some x := fun o x => by have := get_l0 (S.set i o) x []; simpa using this
    simp [-Prod.forall, -Prod.exists, e3, iq_loc, intsD, hz]
    refine ⟨by omega, ?_⟩
    refine .setA (nl_tup.2 ?_) rfl (q H (riseI ps) c2 g2 ⟨hH1, hH2, pw_riseI _, fun p hp' => hp p (mem_riseI.1 hp'), ?_⟩ b2)
    · intro a ha
      rcases List.mem_cons.1 ha with rfl | ha
      · rfl
      · rw [List.mem_singleton.1 ha]
        exact nl_ints _
    · have := len_dedI ps
      rw [riseI, len_sortI]; omega
def endsI (H : Int) (ps : List Int) : List Int := 0 :: (ps ++ [H])
theorem wp_len {H : Int} {ps : List Int} {S : Store} {Q : AV → Store → Prop} (h0 : 0 ≤ H) (h : H ≤ 10000000) (q : Q (.int (2 * H)) S) : wp (d_length_of [lineA H ps] S) Q := by
  refine wp_fn rfl ?_
  simp [-Prod.forall, -Prod.exists, b_length_of, lineA]
  exact ⟨⟨fit_c _ (by decide) (by decide), fit_c _ h0 (by omega)⟩, .pure rfl q⟩
theorem wp_ends {H : Int} {ps : List Int} {S : Store} {Q : AV → Store → Prop} (hl : ps.length ≤ 8) (q : Q (.tup ((endsI H ps).map .int)) S) : wp (d_ends_of [lineA H ps] S) Q := by
  have hz : ∀ n : Nat, n ≤ 100 → n ≤ sizeLine := fun n hn => sizeL (by omega)
  refine wp_fn rfl ?_
  simp [-Prod.forall, -Prod.exists, b_ends_of, lineA, hz]
  refine ⟨hz _ (by omega), hz _ (by omega), ?_⟩
  refine .pure ?_ (by simpa [endsI] using q)
  have : AV.tup (AV.int 0 :: (ps.map AV.int ++ [AV.int H])) = .tup ((endsI H ps).map .int) := by simp [endsI]
  rw [this]
  exact nl_ints _

def so : Str := Str.ofString "out"
def sb : Str := Str.ofString "back"
def sS (b : Bool) : Str := if b then so else sb
def spA (x : Bool × Int) : AV := .tup [.str (sS x.1), .int x.2]
def spanL (n : Nat) : List (Bool × Int) := (List.range n).map (fun (k : Nat) => (true, (k : Int))) ++ (List.range n).reverse.map (fun (k : Nat) => (false, (k : Int)))
def eI (H : Int) (ps : List Int) (i : Nat) : Int := (endsI H ps).getD i 0
def begI (H : Int) (ps : List Int) (x : Bool × Int) : Int := if x.1 then eI H ps x.2.toNat else 2 * H - eI H ps (x.2.toNat + 1)
def finI (H : Int) (ps : List Int) (x : Bool × Int) : Int := if x.1 then eI H ps (x.2.toNat + 1) else 2 * H - eI H ps x.2.toNat
theorem rev_range (n : Nat) : ((List.range n).map fun (k : Nat) => (n : Int) - 1 - k) = (List.range n).reverse.map fun (k : Nat) => (k : Int) := by
  apply List.ext_getElem
  · simp
  · intro i h1 h2
    simp at h1 h2 ⊢
    omega
theorem ends_len (H : Int) (ps : List Int) : (endsI H ps).length = ps.length + 2 := by simp [endsI]
theorem ends_pw {most H : Int} {ps : List Int} (h : LineOk most H ps) : (endsI H ps).Pairwise (· < ·) := by
  obtain ⟨h1, h2, h3, h4, h5⟩ := h
  refine List.pairwise_cons.2 ⟨fun x hx => ?_, List.pairwise_append.2 ⟨h3, by simp, fun a ha b hb => ?_⟩⟩
  · rcases List.mem_append.1 hx with hx | hx
    · have := h4 x hx; omega
    · rw [List.mem_singleton.1 hx]; omega
  · rw [List.mem_singleton.1 hb]; exact (h4 a ha).2
theorem eI_get {H : Int} {ps : List Int} {i : Nat} (hi : i < ps.length + 2) : (endsI H ps)[i]? = some (eI H ps i) := by
  have : i < (endsI H ps).length := by rw [ends_len]; exact hi
  rw [List.getElem?_eq_getElem this]
  simp [eI, List.getD, List.getElem?_eq_getElem this]
theorem eI_lt {most H : Int} {ps : List Int} (h : LineOk most H ps) {i j : Nat} (hij : i < j) (hj : j < ps.length + 2) : eI H ps i < eI H ps j := by
  have hp := List.pairwise_iff_getElem.1 (ends_pw h) i j (by rw [ends_len]; omega) (by rw [ends_len]; omega) hij
  have e1 := eI_get (H := H) (ps := ps) (i := i) (by omega)
  have e2 := eI_get (H := H) (ps := ps) (i := j) hj
  rw [List.getElem?_eq_getElem (by rw [ends_len]; omega)] at e1 e2
  rw [← Option.some.inj e1, ← Option.some.inj e2]
  exact hp
theorem eI_0 (H : Int) (ps : List Int) : eI H ps 0 = 0 := rfl
theorem eI_end (H : Int) (ps : List Int) : eI H ps (ps.length + 1) = H := by
  simp [eI, endsI, List.getD]
theorem eI_bd {most H : Int} {ps : List Int} (h : LineOk most H ps) {i : Nat} (hi : i < ps.length + 2) : 0 ≤ eI H ps i ∧ eI H ps i ≤ H := by
  constructor
  · by_cases h0 : i = 0
    · subst h0; exact Int.le_refl _
    · have := eI_lt h (i := 0) (j := i) (by omega) hi
      rw [eI_0] at this; omega
  · by_cases h0 : i = ps.length + 1
    · rw [h0, eI_end]; exact Int.le_refl _
    · have := eI_lt h (i := i) (j := ps.length + 1) (by omega) (by omega)
      rw [eI_end] at this; omega
theorem mem_spanL {n : Nat} {x : Bool × Int} (h : x ∈ spanL n) : 0 ≤ x.2 ∧ x.2.toNat < n := by
  rcases List.mem_append.1 h with h | h
  · obtain ⟨k, hk, rfl⟩ := List.mem_map.1 h
    have := List.mem_range.1 hk
    exact ⟨by simp, by simpa using this⟩
  · obtain ⟨k, hk, rfl⟩ := List.mem_map.1 h
    have := List.mem_range.1 (List.mem_reverse.1 hk)
    exact ⟨by simp, by simpa using this⟩
theorem span_pw {most H : Int} {ps : List Int} (h : LineOk most H ps) : (spanL (ps.length + 1)).Pairwise fun a b => finI H ps a ≤ begI H ps b := by
  have mono : ∀ i j : Nat, i ≤ j → j < ps.length + 2 → eI H ps i ≤ eI H ps j := fun i j hij hj => by
    by_cases e : i = j
    · rw [e]; exact Int.le_refl _
    · exact Int.le_of_lt (eI_lt h (by omega) hj)
  refine List.pairwise_append.2 ⟨?_, ?_, ?_⟩
  · rw [List.pairwise_map]
    refine List.Pairwise.imp_of_mem ?_ List.pairwise_lt_range
    intro a b ha hb hab
    have := List.mem_range.1 hb
    simp only [finI, begI, if_true, Int.toNat_natCast]
    exact mono _ _ (by omega) (by omega)
  · rw [List.pairwise_map, List.pairwise_reverse]
    refine List.Pairwise.imp_of_mem ?_ List.pairwise_lt_range
    intro a b ha hb hab
    have := List.mem_range.1 hb
    simp only [finI, begI, Bool.false_eq_true, if_false, Int.toNat_natCast]
    have := mono (a + 1) b (by omega) (by omega)
    omega
  · intro a ha b hb
    obtain ⟨k, hk, rfl⟩ := List.mem_map.1 ha
    obtain ⟨j, hj, rfl⟩ := List.mem_map.1 hb
    have := List.mem_range.1 hk
    have := List.mem_range.1 (List.mem_reverse.1 hj)
    simp only [finI, begI, if_true, Bool.false_eq_true, if_false, Int.toNat_natCast]
    have h1 := (eI_bd h (i := k + 1) (by omega)).2
    have h2 := (eI_bd h (i := j + 1) (by omega)).2
    omega
theorem cut2 {l : List AV} {k : Int} {a b : AV} (h0 : 0 ≤ k) (ha : l[k.toNat]? = some a) (hb : l[k.toNat + 1]? = some b) : cutA l (some k) (some (k + 2)) = [a, b] := by
  have h1 := lt_of_get hb
  have e1 : HT.sIx l.length 0 (some k) = k.toNat := by
    show (if k < 0 then (k + (l.length : Int)).toNat else min k.toNat l.length) = k.toNat
    rw [if_neg (by omega)]; omega
  have e2 : HT.sIx l.length l.length (some (k + 2)) = k.toNat + 2 := by
    show (if k + 2 < 0 then (k + 2 + (l.length : Int)).toNat else min (k + 2).toNat l.length) = k.toNat + 2
    rw [if_neg (by omega)]; omega
  unfold cutA
  rw [e1, e2, show k.toNat + 2 - k.toNat = 2 by omega]
  apply List.ext_getElem?
  intro i
  rw [List.getElem?_take, List.getElem?_drop]
  match i with
  | 0 => simpa using ha
  | 1 => simpa using hb
  | i + 2 => simp; omega
theorem e_str (S : Store) (b c : Bool) : eqD S (.str (sS b)) (.str (sS c)) = some (decide (b = c)) := by
  unfold eqD
  rw [frz_of rfl, frz_of rfl]
  cases b <;> cases c <;> decide +kernel
theorem wp_places {most H : Int} {ps : List Int} {x : Bool × Int} {S : Store} {Q : AV → Store → Prop} (h : LineOk most H ps) (hm : most ≤ 10000000) (hx : 0 ≤ x.2 ∧ x.2.toNat < ps.length + 1) (q : Q (.tup [.int (begI H ps x), .int (finI H ps x)]) S) : wp (d_places_of [lineA H ps, spA x] S) Q := by
  obtain ⟨b, k⟩ := x
  have hz : ∀ n : Nat, n ≤ 100 → n ≤ sizeLine := fun n hn => sizeL (by omega)
  have hH : 0 ≤ H ∧ H ≤ 10000000 := ⟨by have := h.1; omega, by have := h.2.1; omega⟩
  have c2 : cutA ((endsI H ps).map AV.int) (some k) (some (k + 2)) = [.int (eI H ps k.toNat), .int (eI H ps (k.toNat + 1))] :=
    cut2 hx.1 (by rw [List.getElem?_map, eI_get (by simp at hx; omega)]; rfl) (by rw [List.getElem?_map, eI_get (by simp at hx; omega)]; rfl)
  refine wp_fn rfl ?_
  unfold b_places_of
  refine ws_cons fun M hM => ?_
  simp [-Prod.forall, -Prod.exists, spA]
  refine hM _ _ ?_
  refine ws_cons fun M hM => ?_
  simp [-Prod.forall, -Prod.exists, E.isNop]
  refine wp_ends h.2.2.2.2 ?_
  simp [-Prod.forall, -Prod.exists, wp_prt_f, slD, partD, cutD, c2]
  refine hM _ _ ?_
  refine ws_cons fun M hM => ?_
  have e := e_str S b true
  simp [-Prod.forall, -Prod.exists, show (Str.ofString "out") = sS true from rfl, e, hz]
  cases b with
  | true => simp [-Prod.forall, -Prod.exists]; exact .pure rfl (by simpa [begI, finI] using q)
  | false =>
    simp [-Prod.forall, -Prod.exists]
    refine hM _ _ ?_
    simp [-Prod.forall, -Prod.exists]
    refine wp_len hH.1 hH.2 ?_
    simp [-Prod.forall, -Prod.exists]
    refine wp_len hH.1 hH.2 ?_
    simp [-Prod.forall, -Prod.exists, hz]
    exact .pure rfl (by simpa [begI, finI] using q)
def rowA (H : Int) (ps : List Int) (x : Bool × Int) : AV := .tup [.str (sS x.1), .int x.2, .int (begI H ps x), .int (finI H ps x)]
theorem rowA_nl (H : Int) (ps : List Int) (x : Bool × Int) : (rowA H ps x).noLoc = true := rfl
theorem wp_rows {most H : Int} {ps : List Int} {S : Store} {Q : AV → Store → Prop} (h : LineOk most H ps) (hm : most ≤ 10000000) (q : Q (.lst ((spanL (ps.length + 1)).map (rowA H ps))) S) : wp (d_law_spans [lineA H ps] S) Q := by
  have hz : ∀ n : Nat, n ≤ 100 → n ≤ sizeLine := fun n hn => sizeL (by omega)
  have hl : ps.length ≤ 8 := h.2.2.2.2
  have hH : 0 ≤ H ∧ H ≤ 10000000 := ⟨by have := h.1; omega, by have := h.2.1; omega⟩
  have f2 : Fit 2 := fit_c _ (by decide) (by decide)
  have fH : Fit H := fit_c _ hH.1 (by omega)
  have at0 : ∀ k : Nat, k < ps.length + 2 → atI ((endsI H ps).map AV.int) (k : Int) = some (.int (eI H ps k)) := fun k hk => atI_nat (by rw [List.getElem?_map, eI_get hk]; rfl)
  have at1 : ∀ k : Nat, k < ps.length + 1 → atI ((endsI H ps).map AV.int) ((k : Int) + 1) = some (.int (eI H ps (k + 1))) := fun k hk => at0 (k + 1) (by omega)
  refine wp_fn rfl ?_
  unfold b_law_spans
  refine ws_cons fun M hM => ?_
  simp [-Prod.forall, -Prod.exists, lineA, hz]
  refine ⟨hz _ (by omega), hz _ (by omega), ?_⟩
  have ee : AV.int 0 :: (ps.map AV.int ++ [AV.int H]) = (endsI H ps).map .int := by simp [endsI]
  rw [ee]
  refine hM _ _ ?_
  have ln : (endsI H ps).length = ps.length + 2 := ends_len H ps
  have e0 : ((ps.length : Int) + 2 - 1).toNat = ps.length + 1 := by omega
  refine ws_cons fun M hM => ?_
  simp [-Prod.forall, -Prod.exists, c_law_spans_0, E.isNop, ln]
  refine ⟨by omega, ?_⟩
  rw [comp_pure (fun (k : Nat) => AV.int k) (fun _ => true) (fun (k : Nat) => rowA H ps (true, k)) (by simp) (List.range (ps.length + 1)) (by simp; exact hz _ (by omega)) ?_, List.filter_eq_self.2 (by simp)]
  · simp [-Prod.forall, -Prod.exists]
    refine hM _ _ ?_
    refine ws_seq (fun ρ S' => ∃ x, S' = S ++ [.lst ((spanL (ps.length + 1)).map (rowA H ps))] ∧ ρ = [some (lineA H ps), some (.lst ((endsI H ps).map .int)), some (.loc S.length), x]) ?_ ?_
    · intro M hM
      simp [-Prod.forall, -Prod.exists, ln, revD]
      refine ⟨by omega, ?_⟩
      try rw [e0]
      rw [← List.map_reverse]
      refine wp_forM (fun (k : Nat) => AV.int k) (List.range (ps.length + 1)).reverse (fun j ρ S' => ∃ x, S' = S ++ [.lst (((List.range (ps.length + 1)).map fun (k : Nat) => rowA H ps (true, k)) ++ ((List.range (ps.length + 1)).reverse.take j).map fun (k : Nat) => rowA H ps (false, k))] ∧ ρ = [some (lineA H ps), some (.lst ((endsI H ps).map .int)), some (.loc S.length), x]) ⟨_, by simp, rfl⟩ (fun _ _ _ _ => by simp) ?_ ?_
      · rintro j k ρ S' hk ⟨x, rfl, rfl⟩ M2 hM2
        have hkr := List.mem_range.1 (List.mem_reverse.1 (List.mem_of_getElem? hk))
        have hj : j < ps.length + 1 := by simpa using lt_of_get hk
        simp [-Prod.forall, -Prod.exists, w_law_spans_0, lineA, get_l0, f2, fH, at0 k (by omega), at1 k hkr, hz, set_l0]
        refine ⟨sizeLt (by omega), hM2 _ _ ⟨_, ?_, rfl⟩⟩
        rw [List.take_succ, hk]
        simp [rowA, sS, sb, begI, finI]
      · rintro ρ S' ⟨x, rfl, rfl⟩
        refine hM _ _ ⟨x, ?_, rfl⟩
        rw [List.take_of_length_le (Nat.le_refl _)]
        simp [spanL, Function.comp_def]
    · rintro ρ S' ⟨x, rfl, rfl⟩
      simp [-Prod.forall, -Prod.exists]
      exact .loc (fun a ha => by obtain ⟨y, _, rfl⟩ := List.mem_map.1 ha; rfl) q
  · intro k hk
    have hk := List.mem_range.1 hk
    refine ⟨_, tg_n _ _ _, ?_⟩
    simp [-Prod.forall, -Prod.exists, hz, at0 k (by omega), at1 k hk, rowA, sS, so, begI, finI]
end VI

set_option maxRecDepth 100000
set_option maxHeartbeats 2000000
/-! VD: dicts. -/
namespace VI
open PySem PySem.Spec PyProof.Rows L2 RZ

/-! ### the built-ins that a dict is handed to -/
section
variable {X : Cx}
theorem ints_pair : ∀ {ks : List Int} {us : List Value}, us.length = ks.length → (∀ (j : Nat) (u : Value), us[j]? = some u → ∃ k t, ks[j]? = some k ∧ u = Value.int k t) → IntsAre us ks
  | [], [], _, _ => .nil
  | k :: ks, u :: us, hl, h => by
    obtain ⟨x, t, e1, rfl⟩ := h 0 u rfl
    cases e1
    exact .cons _ _ (ints_pair (by simpa using hl) fun j v e => by simpa using h (j + 1) v (by simpa using e))
  | [], _ :: _, hl, _ => by simp at hl
  | _ :: _, [], hl, _ => by simp at hl
/-- sorted(d), the keys ints, of any number -/
theorem sorted_dict (hcalm : X.calm = true) : CallR X (.builtin "sorted") (fun xs H Q => ∃ (a : Addr) (kvs : List (Key × V)) (ks : List Int), xs = [.ref a] ∧ Rd H a (.dK kvs) ∧ kvs.map (·.1) = ks.map Sum.inl ∧
    ∀ (ys : List Int) (p : Addr), ys.Perm ks → ys.Pairwise (· ≤ ·) → H p = none → Q (.ref p) (upd H p (.lst (ys.map V.int)))) := by
  intro pins s σ H xs us Q I r q
  obtain ⟨a, kvs, ks, ex, hd, hks, q⟩ := q
  subst ex
  obtain ⟨u, eu, rx⟩ := vals1 r
  subst eu
  cases rx
  obtain ⟨z, lo, vs, rel, dd⟩ := dk_rd I.hok hd
  obtain ⟨ep, hat⟩ := dd.dictAt
  have kk : vs.map (·.1) = ks.map Sum.inl := rel.keys.symm.trans hks
  have hl : vs.length = ks.length := by simpa using congrArg List.length kk
  have hz : vs.length ≤ sizeLine := by rw [← rel.length]; exact z
  refine Calls.call_function_entry PyProof.Rows.kind_sorted PyProof.Rows.plain_sorted PyProof.Rows.entry_sorted (PyProof.Rows.args_sorted1 _) ?_
  unfold Builtin.«sorted»
  refine wpAny_bind (m := checkCount "sorted" 1 1 _) (wpAny_pure (wpAny_bind (PySem.W.kdu_collect (A := X.A.in1) (PySem.W.kdl_dict (knd := mixKind X.prog X.w) (kvs := vs) (ep := ep) lo) (I.ok.hd hcalm) hat hz fun h' tk acc hk hacc => ?_)))
  have al : acc.toList.length = ks.length := by rw [Array.length_toList, hacc.1, hl]
  have hI : IntsAre acc.toList ks := ints_pair al fun j v e => by
    obtain ⟨k, x, e1, e2⟩ := hacc.2 j v (by rw [← Array.getElem?_toList]; exact e)
    have e3 : (vs.map (·.1))[j]? = some k := by rw [List.getElem?_map, e1]; rfl
    rw [kk, List.getElem?_map] at e3
    cases e4 : ks[j]? with
    | none => rw [e4] at e3; cases e3
    | some y =>
      rw [e4] at e3
      cases Option.some.inj e3
      rcases keyIs_shape (show keyIs (Sum.inl y) v = true from e2) with ⟨i, t, ek, ev⟩ | ⟨z, t, ek, ev⟩
      · cases ek
        exact ⟨y, t, rfl, ev⟩
      · cases ek
  have I1 : Inv X pins σ H { s with heap := h', toks := tk } := I.kept hk
  refine wpAny_bind (wpAny_newList ?_ (by rw [al, ← hl]; exact hz))
  have ob : (h'.push (seqObj "list" acc.toList.toArray 0)).get? h'.objs.size = some (seqObj "list" acc.toList.toArray 0) := Heap.get?_push_size _ rfl
  show wpAny _ _ _ _ _ { s with heap := h'.push (seqObj "list" acc.toList.toArray 0), toks := tk }
  refine wpAny_bind (wpAny_holding (wpAny_call_entry PyProof.Rows.slot_list_sort ⟨_, ob, rfl⟩ PyProof.Rows.entry_list_sort
    (SrtO.list_sort_ord (s := { s with heap := h'.push (seqObj "list" acc.toList.toArray 0), toks := tk }) SrtO.swo_int ob (by rw [al, ← hl]; exact hz) (fun h2 => SrtO.ints_sortable hI h2) fun out h1 h2 => ⟨_, rfl, ?_⟩) (PyProof.Rows.args_list_sort _)))
  obtain ⟨k1, k2, k3⟩ := SrtO.ints_out hI h1 h2
  obtain ⟨e', he'⟩ := PyProof.Rows.sortedHeap_at (vs := acc.toList) (out := out.toArray) ob
  have hlen : ((out.map SrtO.iv).map V.int).length ≤ sizeLine := by
    rw [List.length_map, k2.length_eq, ← hl]; exact hz
  refine wpAny_pure ⟨_, rfl, .ref h'.objs.size, upd H h'.objs.size (.lst ((out.map SrtO.iv).map V.int)), I1.laid (t' := tk) (fun b u e => ?_) (Nat.le_refl _)
    (show ObjOk X.prog X.w _ _ _ (.lst ((out.map SrtO.iv).map V.int)) from ⟨hlen, out, e', vals_of_ints k1, he'⟩), rfl, q _ _ k2 k3 (I1.hok.fresh (Nat.le_refl _))⟩
  have hb : b < h'.objs.size := Heap.lt_size e
  rw [PyProof.Rows.sortedHeap_old (Nat.ne_of_lt hb) (by rw [size_push']; exact Nat.lt_succ_of_lt hb)]
  exact Heap.get?_push_of_some _ e
end

/-! ### forms: a built-in called with one thing -/
def f1 (nm : String) (g : AV → Store → Out AV) : Form where
  mat := fun sc e => match e with
    | .Call (.Name f _) [x] [] _ => if (decide (f = Str.ofString nm) && glB sc f) = true then some [x] else none
    | _ => none
  sem := fun ms ρ S => match ms with
    | [m] => (m ρ S).bd g
    | _ => .no
def R1L (K : PySem.W.Frag) (g : AV → Store → Out AV) : List V → Hp → VK → Prop := fun xs H Q => ∃ W S a x, xs = [x] ∧ W.H = H ∧ Rep K W S ∧ RV K W a x ∧ PostO K W (g a S) Q
section
variable {P : Program} {w : World} {K : PySem.W.Frag} {mg : Str → Option Value} {base : Heap} {k : Nat}
theorem f1_mat {nm : String} {g : AV → Store → Out AV} {sc : Scope} {e : Expr} {es : List Expr} (hm : (f1 nm g).mat sc e = some es) : ∃ p1 x p, e = .Call (.Name (Str.ofString nm) p1) [x] [] p ∧ es = [x] ∧ glB sc (Str.ofString nm) = true := by
  simp only [f1] at hm
  split at hm
  · split at hm
    · rename_i hc
      simp only [Bool.and_eq_true, decide_eq_true_eq] at hc
      cases hm
      obtain ⟨rfl, h2⟩ := hc
      exact ⟨_, _, _, rfl, rfl, h2⟩
    · cases hm
  · cases hm
theorem f1_fin {nm : String} {g : AV → Store → Out AV} {ma : Dn} : ∀ σ H Q, T K ((f1 nm g).sem [ma]) σ H Q → tCB (R1L K g) (TL K fun ρ S => (ma ρ S).bd fun x S1 => (Out.ok [] S1).bd fun xs S2 => .ok (x :: xs) S2) σ H Q := fun σ H Q h => by
  obtain ⟨W, ρ, S, s, r, S', e, Q'⟩ := h
  obtain ⟨a, S1, e1, e2⟩ := Out.bd_eq (show (ma ρ S).bd g = .ok r S' from e)
  refine ⟨W, ρ, S, s, [a], S1, by simp [e1], fun W1 xs L1 R1 rs => ?_⟩
  rcases rs with _ | ⟨r1, _ | _⟩
  exact ⟨W1, S1, a, _, rfl, rfl, R1, r1, r, S', e2, Q'.mono L1⟩
theorem f1_okB {nm : String} {g : AV → Store → Out AV} (hb : bootBuiltins (Str.ofString nm) = some (.builtin nm)) (hn : Str.ofString nm ≠ ("__name__" : Str)) (hd : (Str.ofString nm == ("__debug__" : Str)) = false) (hm : mg (Str.ofString nm) = none)
    (cr : ∀ X : Cx, X.calm = true → X.A.units + 64 < cLine → CallR X (.builtin nm) (R1L X.K g)) : FormOk P w K mg base k (f1 nm g) := by
  intro N X sc e es ms gx hmt hp
  obtain ⟨p1, x, p, rfl, rfl, g1⟩ := f1_mat hmt
  obtain ⟨ma, rfl, ha, o1⟩ := hp.one
  have q1 := gx.gl g1
  have hu := gx.hu
  have hc := gx.calm
  obtain ⟨rfl, rfl, rfl, rfl, rfl, -, -, -, -, -⟩ := gx
  exact (pe_callB (cr X hc hu) q1.1 hm hb (pa_consV ha pa_nilV o1) hn hd (odd_star o1) (backTo_any rfl)).w f1_fin
theorem f1_okT {nm : String} {g : AV → Store → Out AV} (hb : bootBuiltins (Str.ofString nm) = some (.type nm)) (hn : Str.ofString nm ≠ ("__name__" : Str)) (hd : (Str.ofString nm == ("__debug__" : Str)) = false) (hm : mg (Str.ofString nm) = none)
    (cr : ∀ X : Cx, X.calm = true → X.A.units + 64 < cLine → CallR X (.type nm) (R1L X.K g)) : FormOk P w K mg base k (f1 nm g) := by
  intro N X sc e es ms gx hmt hp
  obtain ⟨p1, x, p, rfl, rfl, g1⟩ := f1_mat hmt
  obtain ⟨ma, rfl, ha, o1⟩ := hp.one
  have q1 := gx.gl g1
  have hu := gx.hu
  have hc := gx.calm
  obtain ⟨rfl, rfl, rfl, rfl, rfl, -, -, -, -, -⟩ := gx
  exact (pe_callTy (cr X hc hu) q1.1 hm hb (pa_consV ha pa_nilV o1) hn hd (odd_star o1) (backTo_any rfl)).w f1_fin
end
/-- what a dict of the store holds -/
def dctOf (S : Store) : AV → Option (List (Key × AV))
  | .loc i => match S[i]? with
    | some (.dct _ l) => some l
    | _ => none
  | _ => none
def inlOf : Key → Option Int
  | .inl i => some i
  | .inr _ => none
theorem dct_rd {K : PySem.W.Frag} {W : Wd} {S : Store} {a : AV} {x : V} {l : List (Key × AV)} (R : Rep K W S) (r : RV K W a x) (e : dctOf S a = some l) : ∃ p xs, x = .ref p ∧ Rd W.H p (.dK xs) ∧ RKs K W l xs := by
  cases a with
  | loc i =>
    simp only [dctOf] at e
    split at e
    · rename_i lk m em
      cases e
      have o := R.obj i _ em
      cases r with
      | loc hi =>
        cases lk with
        | false => obtain ⟨xs, h1, h2⟩ := o; exact ⟨_, xs, rfl, .inl h1, h2⟩
        | true => obtain ⟨_, xs, ob, h1, h2⟩ := o; exact ⟨_, xs, rfl, .inr ⟨_, h1⟩, h2⟩
    · cases e
  | _ => cases e
def sortDD (m : Bool) (a : AV) (S : Store) : Out AV := optD (dctOf S a) fun l => optD ((l.map (·.1)).mapM inlOf) fun ks => mkL m ((sortI ks).map .int) S
def fSortD (m : Bool) : Form := f1 "sorted" (sortDD m)
theorem inls_of : ∀ {l : List Key} {ks : List Int}, l.mapM inlOf = some ks → l = ks.map Sum.inl
  | [], ks, h => by
    have : ks = [] := by simpa using h.symm
    subst this; rfl
  | c :: l, ks, h => by
    rw [List.mapM_cons] at h
    cases c with
    | inr x => cases h
    | inl i =>
      cases e : l.mapM inlOf with
      | none => rw [e] at h; cases h
      | some js =>
        rw [e] at h
        have : ks = i :: js := by simpa [inlOf] using h.symm
        subst this
        rw [inls_of e]; rfl
section
variable {P : Program} {w : World} {K : PySem.W.Frag} {mg : Str → Option Value} {base : Heap} {k : Nat}
theorem fSortD_ok {m : Bool} (hm : mg "sorted" = none) : FormOk P w K mg base k (fSortD m) := by
  refine f1_okB (by decide +kernel) (by decide +kernel) (by decide +kernel) hm fun X hc hu => ?_
  intro pins s σ H xs us Q I r h
  obtain ⟨W, S, a, x, rfl, rfl, R, ra, P⟩ := h
  obtain ⟨l, e1, P⟩ := P.opt
  obtain ⟨ks, e2, P⟩ := P.opt
  obtain ⟨p, xs, rfl, h1, h2⟩ := dct_rd R ra e1
  refine sorted_dict hc pins s σ W.H _ us Q I r ⟨p, xs, ks, rfl, h1, by rw [← h2.1, inls_of e2], fun ys q hp hs hq => ?_⟩
  rw [sorted_one (hp.trans (sortI_perm ks).symm) hs (sortI_pair ks)]
  exact P.mk R (RVs.ints _) hq
def listDD (m : Bool) (a : AV) (S : Store) : Out AV := optD (dctOf S a) fun l => mkL m (l.map fun p => keyAV p.1) S
def fListD (m : Bool) : Form := f1 "list" (listDD m)
theorem keys_rv {K : PySem.W.Frag} {W : Wd} : ∀ (ks : List Key), RVs K W (ks.map keyAV) (ks.map kV)
  | [] => .nil
  | .inl i :: ks => .cons (.int i) (keys_rv ks)
  | .inr x :: ks => .cons (.str x) (keys_rv ks)
theorem fListD_ok {m : Bool} (hm : mg "list" = none) : FormOk P w K mg base k (fListD m) := by
  refine f1_okT (by decide +kernel) (by decide +kernel) (by decide +kernel) hm fun X hc hu => ?_
  intro pins s σ H xs us Q I r h
  obtain ⟨W, S, a, x, rfl, rfl, R, ra, P⟩ := h
  obtain ⟨l, e1, P⟩ := P.opt
  obtain ⟨p, xs, rfl, h1, h2⟩ := dct_rd R ra e1
  refine call_listD hc pins s σ W.H _ us Q I r ⟨p, xs, rfl, h1, fun q hq => ?_⟩
  refine P.mk R ?_ hq
  have e : (xs.map fun kv => kV kv.1) = (xs.map (·.1)).map kV := by rw [List.map_map]; rfl
  have e' : (l.map fun p => keyAV p.1) = (l.map (·.1)).map keyAV := by rw [List.map_map]; rfl
  rw [e, e', ← h2.1]
  exact keys_rv _
def dictDD (a : AV) (S : Store) : Out AV := optD (dctOf S a) fun l => .ok (.loc S.length) (S ++ [.dct false l])
def fDictD : Form := f1 "dict" dictDD
/-- a new object of the store -/
theorem PostO.new {K : PySem.W.Frag} {W : Wd} {S : Store} {ob : AObj} {Q : VK} {p : Addr} {o : HO} (h : PostO K W (.ok (.loc S.length) (S ++ [ob])) Q) (R : Rep K W S) (hp : W.H p = none) (r : RO K (W.add p o) p ob) : Q (.ref p) (upd W.H p o) := by
  obtain ⟨a, S', e, h⟩ := h
  cases e
  have e : (W.add p o).φ W.n = p := if_pos rfl
  have z : RV K (W.add p o) (.loc W.n) (.ref ((W.add p o).φ W.n)) := .loc (Nat.lt_succ_self _)
  rw [e] at z
  refine h (W.add p o) (.ref p) (Le.add hp) (R.add hp r) ?_
  rw [R.len]
  exact z
theorem fDictD_ok (hm : mg "dict" = none) : FormOk P w K mg base k fDictD := by
  refine f1_okT (by decide +kernel) (by decide +kernel) (by decide +kernel) hm fun X hc hu => ?_
  intro pins s σ H xs us Q I r h
  obtain ⟨W, S, a, x, rfl, rfl, R, ra, P⟩ := h
  obtain ⟨l, e1, P⟩ := P.opt
  obtain ⟨p, xs, rfl, h1, h2⟩ := dct_rd R ra e1
  exact call_dictD pins s σ W.H _ us Q I r ⟨p, xs, rfl, h1, fun q hq => P.new R hq ⟨xs, upd_same, h2.mw (Le.add hq).lw⟩⟩
end

/-! ### displays -/
def seqD : List Dn → Ev → Store → Out (List AV)
  | [], _, S => .ok [] S
  | m :: ms, ρ, S => (m ρ S).bd fun x S1 => (seqD ms ρ S1).bd fun xs S2 => .ok (x :: xs) S2
def mergeA (acc more : List (Key × AV)) : List (Key × AV) := more.foldl (fun acc kv => putA kv.1 kv.2 acc) acc
def constK : Expr → Option Key
  | .Constant (.int i) _ _ => some (.inl i)
  | .Constant (.str x) _ _ => some (.inr x)
  | _ => none
def keysK : List (Option Expr) → Option (List Key)
  | [] => some []
  | some e :: r => match constK e, keysK r with
    | some k, some ks => some (k :: ks)
    | _, _ => none
  | _ => none
/-- {k: .., ..} of written keys -/
def fDct (ks : List Key) : Form where
  mat := fun sc e => match e with
    | .Dict keys values _ => if (decide (keysK keys = some ks) && decide (keys.length = values.length) && decide (keys.length ≤ 15)) = true then some values else none
    | _ => none
  sem := fun ms ρ S => (seqD ms ρ (S ++ [.dct false []])).bd fun xs S1 => match S1[S.length]? with
    | some (.dct false []) => if xs.length = ks.length ∧ ks.length ≤ 15 then .ok (.loc S.length) (S1.set S.length (.dct false (mergeA [] (ks.zip xs)))) else .no
    | _ => .no
/-- {}, its keys will be tuples -/
def fDctT : Form where
  mat := fun sc e => match e with
    | .Dict [] [] _ => some []
    | _ => none
  sem := fun _ _ S => .ok (.loc S.length) (S ++ [.dcT false []])
def pairsT (X : Cx) : List Key → List Dn → List (TE × TE)
  | k :: ks, m :: ms => (tC (kV k), T X.K m) :: pairsT X ks ms
  | _, _ => []
section
variable {P : Program} {w : World} {K : PySem.W.Frag} {mg : Str → Option Value} {base : Heap} {k : Nat}
theorem pps_of {X : Cx} {pos : Pos} : ∀ {keys : List (Option Expr)} {values : List Expr} {ks : List Key} {ms : List Dn}, keysK keys = some ks → keys.length = values.length → PEs X values ms → PPs X pos keys values (pairsT X ks ms)
  | [], [], ks, ms, h, _, hp => by
    cases h
    cases hp
    exact pps_nil
  | [], _ :: _, _, _, _, h, _ => by cases h
  | _ :: _, [], _, _, _, h, _ => by cases h
  | none :: _, _ :: _, _, _, h, _, _ => by cases h
  | some e :: keys, v :: values, ks, ms, h, hl, hp => by
    cases hp with
    | cons h1 o1 hr =>
      simp only [keysK] at h
      cases e1 : constK e with
      | none => rw [e1] at h; cases h
      | some c =>
        cases e2 : keysK keys with
        | none => rw [e1, e2] at h; cases h
        | some cs =>
          rw [e1, e2] at h
          cases h
          have hk : PE X e (tC (kV c)) := by
            cases e with
            | Constant k _ _ =>
              cases k with
              | int i => cases e1; exact pe_int
              | str x => cases e1; exact pe_str
              | _ => cases e1
            | _ => cases e1
          exact pps_cons hk h1 (pps_of e2 (by simpa using hl) hr)
theorem seqD_len : ∀ {ms : List Dn} {ρ : Ev} {S S' : Store} {xs : List AV}, seqD ms ρ S = .ok xs S' → xs.length = ms.length
  | [], _, _, _, _, h => by cases h; rfl
  | m :: ms, ρ, S, S', xs, h => by
    obtain ⟨x, S1, _, h⟩ := Out.bd_eq h
    obtain ⟨ys, S2, h2, h⟩ := Out.bd_eq h
    cases h
    rw [List.length_cons, seqD_len h2]; rfl
theorem pairs_run {X : Cx} {R : List (V × V) → Hp → Prop} : ∀ {ks : List Key} {ms : List Dn} {W : Wd} {ρ : Ev} {S S1 : Store} {xs : List AV} {σ : L2.St}, Stt X.K W ρ S σ W.H → ks.length = ms.length → seqD ms ρ S = .ok xs S1 →
    (∀ W1 vs, Le W W1 → Rep X.K W1 S1 → RVs X.K W1 xs vs → R ((ks.zip vs).map fun p => (kV p.1, p.2)) W1.H) → tPairs (pairsT X ks ms) σ W.H R
  | [], [], W, ρ, S, S1, xs, σ, st, _, h, q => by
    cases h
    exact q W [] (Le.refl W) st.rep .nil
  | [], _ :: _, _, _, _, _, _, _, _, h, _, _ => by cases h
  | _ :: _, [], _, _, _, _, _, _, _, h, _, _ => by cases h
  | c :: ks, m :: ms, W, ρ, S, S1, xs, σ, st, hl, h, q => by
    obtain ⟨x, S2, h1, h⟩ := Out.bd_eq h
    obtain ⟨ys, S3, h2, h⟩ := Out.bd_eq h
    cases h
    refine ⟨W, ρ, S, st, x, S2, h1, fun W1 v L1 R1 r1 => ?_⟩
    refine pairs_run (st.next L1 R1) (by simpa using hl) h2 fun W2 vs L2 R2 rs => ?_
    exact q W2 (v :: vs) (L1.trans L2) R2 (.cons (r1.mono L2) rs)
theorem RKs.merge {W : Wd} : ∀ {ks : List Key} {xs : List AV} {vs : List V} {l : List (Key × AV)} {ms : List (Key × V)}, RVs K W xs vs → ks.length = xs.length → RKs K W l ms → RKs K W (mergeA l (ks.zip xs)) (mergeK ms (ks.zip vs))
  | [], _, _, l, ms, h, hl, r => by
    rw [List.zip_nil_left, List.zip_nil_left]; exact r
  | c :: ks, [], _, _, _, _, hl, _ => by cases hl
  | c :: ks, x :: xs, _, l, ms, h, hl, r => by
    cases h with
    | cons h1 hr =>
      rw [List.zip_cons_cons, List.zip_cons_cons]
      exact RKs.merge hr (by simpa using hl) (r.put c h1)
theorem keysK_some : ∀ {keys : List (Option Expr)} {ks : List Key}, keysK keys = some ks → keys.all (·.isSome) = true ∧ keys.length = ks.length
  | [], ks, h => by cases h; exact ⟨rfl, rfl⟩
  | none :: _, _, h => by cases h
  | some e :: r, ks, h => by
    simp only [keysK] at h
    cases e1 : constK e with
    | none => rw [e1] at h; cases h
    | some c =>
      cases e2 : keysK r with
      | none => rw [e1, e2] at h; cases h
      | some cs =>
        rw [e1, e2] at h
        cases h
        obtain ⟨h1, h2⟩ := keysK_some e2
        exact ⟨by simp [h1], by simp [h2]⟩
theorem Rep.newD {W : Wd} {S : Store} {p : Addr} (R : Rep K W S) (hp : W.H p = none) : Rep K (W.add p (.dK [])) (S ++ [.dct false []]) := R.add hp ⟨[], upd_same, RKs.nil⟩
theorem fDct_ok {ks : List Key} : FormOk P w K mg base k (fDct ks) := by
  intro N X sc e es ms g hm hp
  have h' : ∃ keys values p, e = .Dict keys values p ∧ es = values ∧ keysK keys = some ks ∧ keys.length = values.length ∧ keys.length ≤ 15 := by
    simp only [fDct] at hm
    split at hm
    · split at hm
      · rename_i hc
        simp only [Bool.and_eq_true, decide_eq_true_eq] at hc
        cases hm
        exact ⟨_, _, _, rfl, rfl, hc.1.1, hc.1.2, hc.2⟩
      · cases hm
    · cases hm
  obtain ⟨keys, values, p, rfl, he, h1, h2, h3⟩ := h'
  subst he
  obtain ⟨ka, kl⟩ := keysK_some h1
  have pp := pps_of (X := X) (pos := p) h1 h2 hp
  obtain ⟨rfl, rfl, rfl, rfl, rfl, -, -, -, -, -⟩ := g
  -- what it asks
  have fin : ∀ σ H Q, T X.K ((fDct ks).sem ms) σ H Q → ∀ q, H q = none → tPairs (pairsT X ks ms) σ (upd H q (.dK [])) fun ps H2 => H2 q = some (.dK []) ∧ ∃ kvs : List (Key × V), ps = kvs.map (fun kv => (kV kv.1, kv.2)) ∧ kvs.length ≤ 15 ∧ Q (.ref q) (upd H2 q (.dK (mergeK [] kvs))) := fun σ H Q h q hq => by
    obtain ⟨W, ρ, S, st, r, S', e, PP⟩ := h
    have eH := st.hH
    subst eH
    obtain ⟨xs, S1, e1, e2⟩ := Out.bd_eq (show ((seqD ms ρ (S ++ [.dct false []])).bd fun xs S1 => _) = .ok r S' from e)
    have hlm : ks.length = ms.length ∨ ks.length ≠ ms.length := by omega
    have hxl := seqD_len e1
    split at e2
    · rename_i eD
      split at e2
      · rename_i hz
        cases e2
        have st' : Stt X.K (W.add q (.dK [])) ρ (S ++ [.dct false []]) σ (W.add q (.dK [])).H := ⟨rfl, st.rep.newD hq, st.er.mono (Le.add hq)⟩
        refine pairs_run st' (by omega) e1 fun W1 vs L1 R1 rs => ?_
        have hi : S.length < W1.n := by
          have := L1.n
          have e := st.rep.len
          have : (W.add q (.dK [])).n = W.n + 1 := rfl
          omega
        have hφ : W1.φ S.length = q := by
          rw [L1.φ S.length (by have := st.rep.len; show S.length < W.n + 1; omega), st.rep.len]
          exact if_pos rfl
        obtain ⟨ys, o1, o2⟩ := R1.obj S.length _ eD
        rw [hφ] at o1
        have : ys = [] := by
          have := o2.len
          cases ys with
          | nil => rfl
          | cons _ _ => simp at this
        subst this
        have rl := rs.len
        refine ⟨o1, ks.zip vs, rfl, by simp; omega, ?_⟩
        have e' := PP (W1.lay (W1.φ S.length) (.dK (mergeK [] (ks.zip vs)))) (.ref (W1.φ S.length)) (((Le.add hq).trans L1).trans (Le.wr R1 hi (R1.nlk eD rfl))) (R1.wr hi (R1.nlk eD rfl) ⟨_, upd_same, RKs.merge (rs.mono (Le.wr R1 hi (R1.nlk eD rfl))) (by omega) RKs.nil⟩) (.loc (W := W1.lay _ _) hi)
        rw [hφ] at e'
        exact e'
      · cases e2
    · cases e2
  cases keys with
  | nil =>
    cases es with
    | cons _ _ => cases h2
    | nil =>
      cases h1
      cases hp
      refine pe_dnewK.w fun σ H Q h q hq => ?_
      obtain ⟨-, kvs, e, -, q2⟩ := fin σ H Q h q hq
      have : kvs = [] := by
        cases kvs with
        | nil => rfl
        | cons _ _ => cases e
      subst this
      have e2 : upd (upd H q (.dK [])) q (.dK (mergeK [] [])) = upd H q (.dK []) := upd_upd
      rw [e2] at q2
      exact q2
  | cons k0 keys =>
    exact (pe_disp pp ka h2 (by simp) h3).w fin
theorem fDctT_ok : FormOk P w K mg base k fDctT := by
  intro N X sc e es ms g hm hp
  have h' : ∃ p, e = .Dict [] [] p ∧ es = [] := by
    simp only [fDctT] at hm
    split at hm
    · cases hm; exact ⟨_, rfl, rfl⟩
    · cases hm
  obtain ⟨p, rfl, rfl⟩ := h'
  obtain ⟨rfl, rfl, rfl, rfl, rfl, -, -, -, -, -⟩ := g
  refine pe_dnewT.w fun σ H Q h q hq => ?_
  obtain ⟨W, ρ, S, st, PP⟩ := h
  have eH := st.hH
  subst eH
  exact PostO.new (o := .dT []) PP st.rep hq ⟨[], upd_same, RKs.nil⟩
end

/-! ### get, pop -/
def isDD (S : Store) : AV → Bool
  | .loc i => match S[i]? with
    | some (.dct _ _) => true
    | some (.dcT _ _) => true
    | _ => false
  | _ => false
def getDD (x y d : AV) (S : Store) : Out AV := match x with
  | .loc i => match S[i]? with
    | some (.dct _ l) => optD (keyOf y) fun k => .ok ((lookK k l).getD d) S
    | some (.dcT _ l) => optD (keysOf y) fun k => .ok ((lookK k l).getD d) S
    | _ => .no
  | _ => .no
def popDD (x y : AV) (S : Store) : Out AV := match x with
  | .loc i => match S[i]? with
    | some (.dct false l) => optD (keyOf y) fun k => optD (lookK k l) fun v => .ok v (S.set i (.dct false (dropA k l)))
    | _ => .no
  | _ => .no
/-- a method by its name, the thing and the arguments the parts -/
def mMeth (nm : String) (n : Nat) (sc : Scope) (e : Expr) : Option (List Expr) := match e with
  | .Call (.Attribute o a ap) es [] cp => if (decide (a = Str.ofString nm) && decide (es.length = n) && !isC0 o && (ap.endLine == cp.line)) = true then some (o :: es) else none
  | _ => none
theorem mMeth_is {nm : String} {n : Nat} {sc : Scope} {e : Expr} {es : List Expr} (h : mMeth nm n sc e = some es) : ∃ o ap as cp, e = .Call (.Attribute o (Str.ofString nm) ap) as [] cp ∧ es = o :: as ∧ as.length = n ∧ isC0 o = false ∧ (ap.endLine == cp.line) = true := by
  simp only [mMeth] at h
  split at h
  · split at h
    · rename_i hc
      simp only [Bool.and_eq_true, decide_eq_true_eq, Bool.not_eq_true'] at hc
      cases h
      obtain ⟨⟨⟨rfl, h2⟩, h3⟩, h4⟩ := hc
      exact ⟨_, _, _, _, rfl, rfl, h2, h3, h4⟩
    · cases h
  · cases h
def fGet1 : Form where
  mat := mMeth "get" 1
  sem := fun ms ρ S => match ms with
    | [mo, mk] => (mo ρ S).bd fun x S1 => if isDD S1 x = true then (mk ρ S1).bd fun y S2 => getDD x y .non S2 else .no
    | _ => .no
def fGet2 : Form where
  mat := mMeth "get" 2
  sem := fun ms ρ S => match ms with
    | [mo, mk, md] => (mo ρ S).bd fun x S1 => if isDD S1 x = true then (mk ρ S1).bd fun y S2 => (md ρ S2).bd fun d S3 => getDD x y d S3 else .no
    | _ => .no
def fPopD : Form where
  mat := mMeth "pop" 1
  sem := fun ms ρ S => match ms with
    | [mo, mk] => (mo ρ S).bd fun x S1 => if isDD S1 x = true then (mk ρ S1).bd fun y S2 => popDD x y S2 else .no
    | _ => .no
section
variable {P : Program} {w : World} {K : PySem.W.Frag} {mg : Str → Option Value} {base : Heap} {k : Nat}
theorem isDD_is {W : Wd} {S : Store} {a : AV} {x : V} (R : Rep K W S) (r : RV K W a x) (h : isDD S a = true) : ∃ p, x = .ref p ∧ IsD W.H p := by
  cases a with
  | loc i =>
    simp only [isDD] at h
    cases r with
    | loc hi =>
      split at h
      · rename_i b l e
        refine ⟨_, rfl, ?_⟩
        have o := R.obj i _ e
        cases b with
        | false => obtain ⟨xs, h1, _⟩ := o; exact .inl ⟨xs, .inl h1⟩
        | true => obtain ⟨_, xs, ob, h1, _⟩ := o; exact .inl ⟨xs, .inr ⟨_, h1⟩⟩
      · rename_i b l e
        refine ⟨_, rfl, ?_⟩
        have o := R.obj i _ e
        cases b with
        | false => obtain ⟨xs, h1, _⟩ := o; exact .inr ⟨xs, .inl h1⟩
        | true => obtain ⟨_, xs, ob, h1, _⟩ := o; exact .inr ⟨xs, .inr ⟨_, h1⟩⟩
      · cases h
  | _ => cases h
theorem getDD_is {W : Wd} {S : Store} {a b d : AV} {x y z : V} {Q : VK} (R : Rep K W S) (ra : RV K W a x) (rb : RV K W b y) (rd : RV K W d z) (h : PostO K W (getDD a b d S) Q) : ∃ p o, x = .ref p ∧ DGet W.H p y o ∧ Q (o.getD z) W.H := by
  cases a with
  | loc i =>
    cases ra with
    | loc hi =>
      simp only [getDD] at h
      split at h
      · rename_i lk l e
        obtain ⟨c, e1, hh⟩ := h.opt; clear h; have h := hh; clear hh
        have ek := keyOf_ok e1 rb
        subst ek
        have o := R.obj i _ e
        have key : ∀ xs, Rd W.H (W.φ i) (.dK xs) → RKs K W l xs → ∃ p o, V.ref (W.φ i) = .ref p ∧ DGet W.H p (kV c) o ∧ Q (o.getD z) W.H := fun xs h1 h2 => by
          refine ⟨_, valV xs c, rfl, .inl ⟨xs, c, h1, rfl, rfl⟩, ?_⟩
          cases e2 : lookK c l with
          | none => rw [h2.lookN c e2]; rw [e2] at h; exact (h.val R rd : Q z W.H)
          | some v =>
            obtain ⟨u, h3, h4⟩ := h2.look c e2
            rw [h3]; rw [e2] at h
            exact (h.val R h4 : Q u W.H)
        cases lk with
        | false => obtain ⟨xs, h1, h2⟩ := o; exact key xs (.inl h1) h2
        | true => obtain ⟨_, xs, ob, h1, h2⟩ := o; exact key xs (.inr ⟨_, h1⟩) h2
      · rename_i lk l e
        obtain ⟨c, e1, hh⟩ := h.opt; clear h; have h := hh; clear hh
        have o := R.obj i _ e
        cases b with
        | tup ks =>
          cases rb with
          | tup h2 s2 r2 =>
            have ek := keysOf_ok' (l := ks) e1 r2
            subst ek
            have key : ∀ xs, Rd W.H (W.φ i) (.dT xs) → RKs K W l xs → ∃ p o, V.ref (W.φ i) = .ref p ∧ DGet W.H p _ o ∧ Q (o.getD z) W.H := fun xs h1 h3 => by
              refine ⟨_, valV xs c, rfl, .inr ⟨xs, c, _, h1, rfl, h2, rfl⟩, ?_⟩
              cases e2 : lookK c l with
              | none => rw [h3.lookN c e2]; rw [e2] at h; exact (h.val R rd : Q z W.H)
              | some v =>
                obtain ⟨u, h4, h5⟩ := h3.look c e2
                rw [h4]; rw [e2] at h
                exact (h.val R h5 : Q u W.H)
            cases lk with
            | false => obtain ⟨xs, h1, h3⟩ := o; exact key xs (.inl h1) h3
            | true => obtain ⟨_, xs, ob, h1, h3⟩ := o; exact key xs (.inr ⟨_, h1⟩) h3
        | _ => cases e1
      · exact h.no.elim
  | _ => exact h.no.elim
theorem few_1 {X : Cx} {cp : Pos} {e : Expr} (h : odd e = false) : backTo cp (starEach [e] X.env) = [(false, eval e X.env)] := by rw [odd_star h]; rfl
theorem few_2 {X : Cx} {cp : Pos} {e f : Expr} (h : odd e = false) (h' : odd f = false) : backTo cp (starEach [e, f] X.env) = [(false, eval e X.env), (false, eval f X.env)] := by rw [odd_star h, odd_star h']; rfl
theorem fGet2_ok : FormOk P w K mg base k fGet2 := by
  intro N X sc e es ms g hm hp
  obtain ⟨o, ap, as, cp, rfl, rfl, hl, h3, h4⟩ := mMeth_is (sc := sc) hm
  obtain ⟨a, b, rfl⟩ : ∃ a b, as = [a, b] := by
    rcases as with _ | ⟨a, _ | ⟨b, _ | _⟩⟩
    · cases hl
    · cases hl
    · exact ⟨a, b, rfl⟩
    · cases hl
  obtain ⟨mo, mk, md, rfl, ho, hk, hd, o1, o2, o3⟩ := hp.three
  have hu := g.hu
  obtain ⟨rfl, rfl, rfl, rfl, rfl, -, -, -, -, -⟩ := g
  refine (pe_dget2 (by omega) ho hk hd ⟨isC0_base h3, few_ok (by simp) (by rw [odd_star o2, odd_star o3]; rfl), h4, few_2 o2 o3⟩).w fun σ H Q h => ?_
  obtain ⟨W, ρ, S, st, P⟩ := h
  have P : PostO X.K W ((mo ρ S).bd fun x S1 => if isDD S1 x = true then (mk ρ S1).bd fun y S2 => (md ρ S2).bd fun d S3 => getDD x y d S3 else .no) Q := P
  refine T.bd st P fun x S1 W1 v L1 s1 r1 P1 => ?_
  obtain ⟨hi, P1⟩ := P1.ite
  obtain ⟨p, rfl, hD⟩ := isDD_is s1.rep r1 hi
  refine ⟨p, rfl, hD, T.bd s1 P1 fun y S2 W2 u L2 s2 r2 P2 => T.bd s2 P2 fun d S3 W3 z L3 s3 r3 P3 => ?_⟩
  obtain ⟨p', ob, e, q1, q2⟩ := getDD_is s3.rep ((r1.mono L2).mono L3) (r2.mono L3) r3 P3
  cases e
  exact ⟨ob, q1, q2⟩
theorem fGet1_ok : FormOk P w K mg base k fGet1 := by
  intro N X sc e es ms g hm hp
  obtain ⟨o, ap, as, cp, rfl, rfl, hl, h3, h4⟩ := mMeth_is (sc := sc) hm
  obtain ⟨a, rfl⟩ : ∃ a, as = [a] := by
    rcases as with _ | ⟨a, _ | _⟩
    · cases hl
    · exact ⟨a, rfl⟩
    · cases hl
  obtain ⟨mo, mk, rfl, ho, hk, o1, o2⟩ := hp.two
  have hu := g.hu
  obtain ⟨rfl, rfl, rfl, rfl, rfl, -, -, -, -, -⟩ := g
  refine (pe_dget1 (by omega) ho hk ⟨isC0_base h3, few_ok (by simp) (by rw [odd_star o2]; rfl), h4, few_1 o2⟩).w fun σ H Q h => ?_
  obtain ⟨W, ρ, S, st, P⟩ := h
  have P : PostO X.K W ((mo ρ S).bd fun x S1 => if isDD S1 x = true then (mk ρ S1).bd fun y S2 => getDD x y .non S2 else .no) Q := P
  refine T.bd st P fun x S1 W1 v L1 s1 r1 P1 => ?_
  obtain ⟨hi, P1⟩ := P1.ite
  obtain ⟨p, rfl, hD⟩ := isDD_is s1.rep r1 hi
  refine ⟨p, rfl, hD, T.bd s1 P1 fun y S2 W2 u L2 s2 r2 P2 => ?_⟩
  obtain ⟨p', ob, e, q1, q2⟩ := getDD_is s2.rep (r1.mono L2) r2 .non P2
  cases e
  exact ⟨ob, q1, q2⟩
theorem fPopD_ok : FormOk P w K mg base k fPopD := by
  intro N X sc e es ms g hm hp
  obtain ⟨o, ap, as, cp, rfl, rfl, hl, h3, h4⟩ := mMeth_is (sc := sc) hm
  obtain ⟨a, rfl⟩ : ∃ a, as = [a] := by
    rcases as with _ | ⟨a, _ | _⟩
    · cases hl
    · exact ⟨a, rfl⟩
    · cases hl
  obtain ⟨mo, mk, rfl, ho, hk, o1, o2⟩ := hp.two
  obtain ⟨rfl, rfl, rfl, rfl, rfl, -, -, -, -, -⟩ := g
  refine (pe_dpop1 ho hk ⟨isC0_base h3, few_ok (by simp) (by rw [odd_star o2]; rfl), h4, few_1 o2⟩).w fun σ H Q h => ?_
  obtain ⟨W, ρ, S, st, P⟩ := h
  have P : PostO X.K W ((mo ρ S).bd fun x S1 => if isDD S1 x = true then (mk ρ S1).bd fun y S2 => popDD x y S2 else .no) Q := P
  refine T.bd st P fun x S1 W1 v L1 s1 r1 P1 => ?_
  obtain ⟨hi, P1⟩ := P1.ite
  obtain ⟨p, rfl, hD⟩ := isDD_is s1.rep r1 hi
  refine ⟨p, rfl, hD, T.bd s1 P1 fun y S2 W2 u L2 s2 r2 P2 => ?_⟩
  have r1' := r1.mono L2
  cases x with
  | loc i =>
    simp only [popDD] at P2
    split at P2
    · rename_i l e
      obtain ⟨c, e1, P2⟩ := P2.opt
      obtain ⟨v, e2, P2⟩ := P2.opt
      have ek := keyOf_ok e1 r2
      subst ek
      obtain ⟨xs, h1, h2⟩ := s2.rep.obj i _ e
      obtain ⟨z, h5, h6⟩ := h2.look c e2
      have hp : W2.φ i = p := by
        have : ∀ {a b : Addr}, V.ref a = V.ref b → a = b := fun h => by cases h; rfl
        generalize hx : V.ref p = vv at r1'
        cases r1' with
        | loc hi => exact (this hx).symm
      have hi : i < W2.n := by cases r1' with | loc hi => exact hi
      subst hp
      refine ⟨xs, c, z, h1, rfl, h5, ?_⟩
      obtain ⟨r, S', e3, P3⟩ := P2
      cases e3
      exact P3 (W2.lay (W2.φ i) (.dK (dropK xs c))) z (Le.wr s2.rep hi (s2.rep.nlk e rfl)) (s2.rep.wr hi (s2.rep.nlk e rfl) ⟨_, upd_same, (h2.mw (Le.wr s2.rep hi (s2.rep.nlk e rfl)).lw).drop c⟩) (h6.mono (Le.wr s2.rep hi (s2.rep.nlk e rfl)))
    · exact P2.no.elim
  | _ => exact P2.no.elim
end
end VI

set_option maxRecDepth 100000
set_option maxHeartbeats 1000000
/-! VR: range(a, b, c) gone through, c above 0. -/
namespace VI
open PySem PySem.Spec PyProof.Rows L2
theorem wk_rngK {K : PySem.W.Frag} {W0 : Wd} {lo k : Int} {n : Nat} : WkOk K W0 ((List.range n).map fun (t : Nat) => .int (lo + t * k)) [] (Itc lo k n) := by
  refine ⟨fun _ => True, fun i H x H' => H' = H ∧ x = .int (lo + (i : Nat) * k) ∧ i < n, ⟨fun i H hi _ => by show i < n; simpa using hi, fun H _ => by show n ≤ _; simp, fun i H x H' hi _ y => ⟨y.1, y.2, by simpa using hi⟩⟩, fun W S L R _ => trivial, fun W S i x H' L R _ y => ?_⟩
  obtain ⟨e, hx, hi⟩ := y
  subst hx
  exact ⟨W, .int (lo + i * k), e.symm, Le.refl W, R, by simp [hi], .int _⟩
def fiRg3 : FormI where
  mat := fun sc _ e => match e with
    | .Call (.Name r _) [x, y, z] [] _ => if (decide (r = Str.ofString "range") && glB sc r) = true then some [x, y, z] else none
    | _ => none
  sem := fun ms ρ S => match ms with
    | [ma, mb, mc] => (ma ρ S).bd fun x S1 => (mb ρ S1).bd fun y S2 => (mc ρ S2).bd fun z S3 => match x, y, z with
      | .int i, .int j, .int k => if -(2 ^ 60) ≤ i ∧ i ≤ 2 ^ 60 ∧ -(2 ^ 60) ≤ j ∧ j ≤ 2 ^ 60 ∧ j - i ≤ 10000000 ∧ 0 < k ∧ k ≤ 1000000 then .ok ((List.range (rgN i j k)).map fun (t : Nat) => .int (i + t * k), []) S3 else .no
      | _, _, _ => .no
    | _ => .no
theorem fiRg3_ok {P : Program} {w : World} {K : PySem.W.Frag} {mg : Str → Option Value} {base : Heap} {k : Nat} (h1 : mg "range" = none) : FormIOk P w K mg base k fiRg3 := by
  intro N X sc tg e es ms g hm hp
  have h' : ∃ r p1 x y z p, e = .Call (.Name r p1) [x, y, z] [] p ∧ es = [x, y, z] ∧ r = Str.ofString "range" ∧ glB sc r = true := by
    simp only [fiRg3] at hm
    split at hm
    · split at hm
      · rename_i hc
        simp only [Bool.and_eq_true, decide_eq_true_eq] at hc
        cases hm
        exact ⟨_, _, _, _, _, _, rfl, rfl, hc.1, hc.2⟩
      · cases hm
    · cases hm
  obtain ⟨r, p1, x, y, z, p, rfl, rfl, rfl, g1⟩ := h'
  obtain ⟨ma, mb, mc, rfl, ha, hb, hc, o1, o2, o3⟩ := hp.three
  have q1 := g.gl g1
  obtain ⟨rfl, rfl, rfl, rfl, rfl, -, -, -, -, -⟩ := g
  refine (pi_range3 q1.1 h1 (pa_consV ha (pa_consV hb (pa_consV hc pa_nilV o3) o2) o1) (odd_star o1) (backTo_any (by rw [odd_star o2, odd_star o3]; rfl))).wk fun σ H R h => ?_
  obtain ⟨W, ρ, S, st, w', S', e, Q⟩ := h
  have e : ((ma ρ S).bd fun x S1 => (mb ρ S1).bd fun y S2 => (mc ρ S2).bd fun z S3 => match x, y, z with
      | .int i, .int j, .int k => if -(2 ^ 60) ≤ i ∧ i ≤ 2 ^ 60 ∧ -(2 ^ 60) ≤ j ∧ j ≤ 2 ^ 60 ∧ j - i ≤ 10000000 ∧ 0 < k ∧ k ≤ 1000000 then Out.ok ((List.range (rgN i j k)).map fun (t : Nat) => AV.int (i + t * k), ([] : List (Nat × List AV))) S3 else .no
      | _, _, _ => .no) = .ok w' S' := e
  obtain ⟨x, S1, k1, e2⟩ := Out.bd_eq e
  obtain ⟨y, S2, k2, e3⟩ := Out.bd_eq e2
  obtain ⟨z, S3, k3, e4⟩ := Out.bd_eq e3
  have : ∃ i j k, x = .int i ∧ y = .int j ∧ z = .int k ∧ (-(2 ^ 60) ≤ i ∧ i ≤ 2 ^ 60 ∧ -(2 ^ 60) ≤ j ∧ j ≤ 2 ^ 60 ∧ j - i ≤ 10000000 ∧ 0 < k ∧ k ≤ 1000000) ∧ w' = ((List.range (rgN i j k)).map fun (t : Nat) => .int (i + t * k), []) ∧ S3 = S' := by
    split at e4
    · split at e4
      · rename_i hz
        cases e4
        exact ⟨_, _, _, rfl, rfl, rfl, hz, rfl, rfl⟩
      · cases e4
    · cases e4
  obtain ⟨i, j, kk, rfl, rfl, rfl, hz, rfl, rfl⟩ := this
  refine ⟨W, ρ, S, st, [.int i, .int j, .int kk], S3, by simp [k1, k2, k3], fun W1 xs L1 R1 rs => ?_⟩
  rcases rs with _ | ⟨r1, _ | ⟨r2, _ | ⟨r3, _ | _⟩⟩⟩
  · cases r1
    cases r2
    cases r3
    exact ⟨i, j, kk, _, rfl, rg_ok hz, Q W1 _ L1 R1 wk_rngK⟩
end VI

set_option maxRecDepth 100000
set_option maxHeartbeats 2000000
/-! VC: a def that calls itself; a tuple told from behind. -/
namespace VI
open PySem PySem.Spec PyProof.Rows L2 RZ
section
variable {P : Program} {w : World} {K : PySem.W.Frag} {mg : Str → Option Value} {base : Heap} {k : Nat}
/-- a def of which nothing is told -/
theorem fx_no {x qual y : Str} {st : Stmt} {f : Addr} {fd : FuncData} {N ps : List Str} (F : FunA K x qual st f fd) (hm : mg y = some (.ref f)) (hb : Binds K fd ps []) (Sc : FnScope N ps (defScope st)) : Fx P w K mg base (k + 1) y (fun _ _ => .no) := by
  refine ⟨f, fd, ps, hm, F.kp, hb, fun _ _ _ _ e => (by cases e), ?_⟩
  refine F.go0 Sc (fun vs H Q E h => ?_) (fun cdv A outer s H vs Q E hr h => ?_)
  · obtain ⟨_, _, _, _, _, _, q⟩ := h; exact q.no.elim
  · obtain ⟨_, _, _, _, _, _, q⟩ := h; exact q.no.elim
end
section
variable {prog : Program} {w : World} {A : Around} {E : Value → Shared → Prop} {s : Shared}
theorem part_of {v : Value} {o : Option Int} {Q : Option Int → Shared → Prop} (g : IsPart v o) (q : Q o s) : wpAny (model prog w) A (Builtin.Slice.slicePartIndex v) Q E s := HT.slicePart_ g q
theorem places_back (n : Nat) : Builtin.Slice.slicePlaces ((n : Int) - 1) (-1) (-1) = n := by
  unfold Builtin.Slice.slicePlaces
  have e1 : ¬ ((-1 : Int) > 0) := by decide
  have e2 : -(-1 : Int) = 1 := by decide
  rw [if_neg e1, e2, Int.ediv_one]
  split <;> omega
theorem applied_back {sl : Addr} {a b c : Value} {n : Nat} {Q : Int × Int × Nat → Shared → Prop} (hs : s.heap.IsSliceOf sl a b c) (pa : IsPart a none) (pb : IsPart b none) (pc : IsPart c (some (-1)))
    (q : Q ((n : Int) - 1, -1, n) s) : wpAny (model prog w) A (Builtin.Slice.sliceApplied (.ref sl) (pure (n : Int))) Q E s := by
  obtain ⟨os, k1, k2, k3⟩ := id hs
  unfold Builtin.Slice.sliceApplied Builtin.Slice.sliceFields
  refine wpAny_bind (wpAny_bind (wpAny_field k1 k3 (x := a) rfl (wpAny_bind (wpAny_field k1 k3 (x := b) rfl (wpAny_bind (wpAny_field k1 k3 (x := c) rfl (wpAny_pure ?_)))))))
  refine wpAny_bind (part_of pc ?_)
  show wpAny _ _ (if ((-1 : Int) == 0) = true then _ else _) _ _ s
  rw [if_neg (by decide)]
  refine wpAny_bind (part_of pa (wpAny_bind (part_of pb (wpAny_bind (wpAny_pure ?_)))))
  show wpAny _ _ (pure ((n : Int) - 1, (-1 : Int), Builtin.Slice.slicePlaces ((n : Int) - 1) (-1) (-1))) _ _ s
  rw [places_back]
  exact wpAny_pure q
theorem fm_map {α β : Type} {f : α → Option β} {g : α → β} : ∀ {l : List α}, (∀ m ∈ l, f m = some (g m)) → l.filterMap f = l.map g
  | [], _ => rfl
  | a :: l, h => by
    rw [List.filterMap_cons, h a (.head _), List.map_cons]
    simp only
    rw [fm_map fun m hm => h m (.tail _ hm)]
theorem pick_back (xs : Array Value) : ((List.range xs.size).filterMap fun (m : Nat) => xs[(((xs.size : Int) - 1) + (m : Int) * (-1)).toNat]?).toArray = xs.toList.reverse.toArray := by
  congr 1
  have e : ∀ m ∈ List.range xs.size, xs[(((xs.size : Int) - 1) + (m : Int) * (-1)).toNat]? = some (xs.toList.reverse.getD m .none) := by
    intro m hm
    have hm := List.mem_range.1 hm
    have e1 : (((xs.size : Int) - 1) + (m : Int) * (-1)).toNat = xs.size - 1 - m := by omega
    have e2 : xs.toList.reverse[m]? = xs[xs.size - 1 - m]? := by
      rw [List.getElem?_reverse (by rw [Array.length_toList]; exact hm), Array.length_toList, Array.getElem?_toList]
    have e3 : xs[xs.size - 1 - m]? = some xs[xs.size - 1 - m] := Array.getElem?_eq_getElem (by omega)
    rw [e1, List.getD_eq_getElem?_getD, e2, e3]
    rfl
  rw [fm_map e]
  apply List.ext_getElem?
  intro i
  rw [List.getElem?_map]
  by_cases hi : i < xs.size
  · rw [List.getElem?_range hi]
    have : i < xs.toList.reverse.length := by simpa using hi
    simp [List.getD_eq_getElem?_getD, List.getElem?_eq_getElem this]
  · rw [List.getElem?_eq_none (by simpa using Nat.le_of_not_lt hi), List.getElem?_eq_none (by simpa using Nat.le_of_not_lt hi)]; rfl
theorem tuple_back {t sl : Addr} {items : Array Value} {a b c : Value} {Q : Value → Shared → Prop} (ht : IsTup s.heap t items) (hs : s.heap.IsSliceOf sl a b c) (pa : IsPart a none) (pb : IsPart b none) (pc : IsPart c (some (-1)))
    (q : Q (.ref s.heap.objs.size) { s with heap := s.heap.push { cls := .type "tuple", data := .seq items.toList.reverse.toArray } }) (hsz : items.size ≤ sizeLine) : wpAny (model prog w) A (getItem (.ref t) (.ref sl)) Q E s := by
  have hz : sizeOk (.seq items.toList.reverse.toArray) := by
    show items.toList.reverse.toArray.size ≤ sizeLine
    simpa using hsz
  obtain ⟨os, k1, k2, k3⟩ := id hs
  have hT : s.TypeIs (.ref sl) "slice" := ⟨os, k1, k2⟩
  unfold getItem
  try with_reducible refine wpAny_holding ?_
  first | refine wpAny_bind (wpAny_pure ?_) | skip
  refine wpAny_bind (wpAny_sequenceKey ht.typeIs (by decide) ?_)
  refine wpAny_bind (wpAny_callSpecial?_slot (name := Str.ofString "__getitem__") ht.typeIs PyProof.Rows.slot_tuple_getitem (wpAny_call_entry PyProof.Rows.slot_tuple_getitem ht.typeIs entry_tuple_getitem ?_ (args_tuple_getitem _ _)))
  show wpAny _ _ (Builtin.Tuple.tupleItemsOf (.ref t) >>= _) _ _ s
  refine wpAny_bind (tupleItemsOf_ ht ?_)
  refine wpAny_bind (wpAny_typeOf hT ?_)
  rw [if_pos (by decide)]
  refine wpAny_bind (applied_back hs pa pb pc ?_)
  have no : ¬ ((((items.size : Int) - 1) == 0 && (-1 : Int) == 1 && items.size == items.size) = true) := by
    intro q
    rw [Bool.and_eq_true, Bool.and_eq_true] at q
    exact absurd q.1.2 (by decide)
  show wpAny _ _ (if (((items.size : Int) - 1) == 0 && (-1 : Int) == 1 && items.size == items.size) = true then _ else _) _ _ s
  rw [if_neg no, pick_back]
  first
    | exact wpAny_bind (m := Builtin.Tuple.tupleExact _) (wpAny_newObj_type (wpAny_pure ⟨_, rfl, wpAny_pure q⟩) hz)
    | exact wpAny_bind (m := Builtin.Tuple.tupleExact _) (wpAny_newObj_type (wpAny_bind (wpAny_pure (wpAny_pure ⟨_, rfl, wpAny_pure q⟩))) hz)
    | exact wpAny_bind (wpAny_bind (m := Builtin.Tuple.tupleExact _) (wpAny_newObj_type (wpAny_pure (wpAny_pure ⟨_, rfl, wpAny_pure q⟩)) hz))
    | exact wpAny_bind (wpAny_bind (m := Builtin.Tuple.tupleExact _) (wpAny_newObj_type (wpAny_pure ⟨_, rfl, wpAny_pure q⟩) hz))
end
/-! ### t[::-1] -/
def tRevT (K : PySem.W.Frag) (te : TE) : TE := fun σ H Q => te σ H fun x H1 => ∃ a xs, x = .ref a ∧ SqT K H1 a xs ∧ ∀ p, H1 p = none → Q (.ref p) (upd H1 p (.tup xs.reverse))
theorem pe_revT {X : Cx} {e : Expr} {te : TE} {k : Nat} {p1 p2 p3 pos : Pos} (he : PE X e te) : PE X (.Subscript e (.Slice none none (some (.UnaryOp .USub (.Constant (.int 1) k p1) p2)) p3) pos) (tRevT X.K te) := by
  refine ⟨fun pins s σ H Q I h => ?_⟩
  refine Subscript_ (thn (he.run pins s σ H _ I h) fun v s1 hv => ?_)
  obtain ⟨x, H1, I1, r1, a, xs, ex, hx, q⟩ := hv
  subst ex
  cases r1
  have st : PO X (some (.UnaryOp .USub (.Constant (.int 1) k p1) p2)) (tPart (tUn (rU fun i => .int (-i)) (tC (.int 1)))) := po_some (pe_un un_neg pe_int)
  refine wpAny_Slice (thn (po_none.run pins s1 σ H1 (fun o H2 => o = none ∧ H2 = H1) I1 ⟨rfl, rfl⟩) fun va s2 ha => ?_)
  obtain ⟨oa, H2, I2, pa, rfl, rfl⟩ := ha
  refine thn (po_none.run pins s2 σ H2 (fun o H3 => o = none ∧ H3 = H2) I2 ⟨rfl, rfl⟩) fun vb s3 hb => ?_
  obtain ⟨ob, H3, I3, pb, rfl, rfl⟩ := hb
  refine thn (st.run pins s3 σ H3 (fun o H4 => o = some (-1) ∧ H4 = H3) I3 ⟨1, rfl, -1, rfl, rfl, rfl⟩) fun vc s4 hc => ?_
  obtain ⟨oc, H4, I4, pc, rfl, rfl⟩ := hc
  have I5 : Inv X pins σ H4 { s4 with heap := s4.heap.push { cls := .type "slice", data := .fields #[va, vb, vc] } } := I4.kept (t' := s4.toks) fun b o k => Heap.get?_push_of_some _ k
  obtain ⟨its, r, ht, hz⟩ := I5.tuple hx
  have hlen := r.length
  show wpAny (model X.prog X.w) X.A (subscriptTail e (.Slice none none (some (.UnaryOp .USub (.Constant (.int 1) k p1) p2)) p3) (.ref a) (.ref s4.heap.objs.size)) (EP X pins σ Q) X.xe { s4 with heap := s4.heap.push { cls := .type "slice", data := .fields #[va, vb, vc] } }
  refine tail_any (ops := [.ref a, .ref s4.heap.objs.size]) ht.typeIs (PyProof.Rows.slot_tuple_getitem.lookup) ?_ (by with_unfolding_all rfl)
  refine tuple_back ht (Heap.IsSliceOf.new _ va vb vc) pa pb pc ?_ (by rw [List.size_toArray]; omega)
  refine ⟨.ref _, _, I5.laid (t' := s4.toks) (o := .tup xs.reverse) (fun b o k => Heap.get?_push_of_some _ k) (Nat.le_refl _) ?_, rfl, q _ (I5.hok.fresh (Nat.le_refl _))⟩
  exact ⟨by rw [List.length_reverse]; exact hz, _, r.reverse, IsTup.new _ _⟩
def fRevT : Form where
  mat := fun _ e => match e with
    | .Subscript a (.Slice none none (some (.UnaryOp .USub (.Constant (.int n) _ _) _)) _) _ => if n = 1 then some [a] else none
    | _ => none
  sem := fun ms ρ S => match ms with
    | [ma] => (ma ρ S).bd fun x S1 => match x with
      | .tup l => .ok (.tup l.reverse) S1
      | _ => .no
    | _ => .no
theorem fRevT_ok {P : Program} {w : World} {K : PySem.W.Frag} {mg : Str → Option Value} {base : Heap} {k : Nat} : FormOk P w K mg base k fRevT := by
  intro N X sc e es ms g hm hp
  have h' : ∃ a kk p1 p2 p3 pos, e = .Subscript a (.Slice none none (some (.UnaryOp .USub (.Constant (.int 1) kk p1) p2)) p3) pos ∧ es = [a] := by
    simp only [fRevT] at hm
    split at hm
    · split at hm
      · rename_i hn
        subst hn
        cases hm
        exact ⟨_, _, _, _, _, _, rfl, rfl⟩
      · cases hm
    · cases hm
  obtain ⟨a, kk, p1, p2, p3, pos, rfl, rfl⟩ := h'
  obtain ⟨ma, rfl, ha, o1⟩ := hp.one
  obtain ⟨rfl, rfl, rfl, rfl, rfl, -, -, -, -, -⟩ := g
  refine (pe_revT ha).w fun σ H Q h => ?_
  obtain ⟨W, ρ, S, st, PP⟩ := h
  have PP : PostO X.K W ((ma ρ S).bd fun x S1 => match x with
      | .tup l => Out.ok (AV.tup l.reverse) S1
      | _ => .no) Q := PP
  refine T.bd st PP fun x S1 W1 v L1 s1 r1 P1 => ?_
  cases x with
  | tup l =>
    obtain ⟨p, xs, rfl, h1, r⟩ := r1.itT
    exact ⟨p, xs, rfl, h1, fun q hq => PostO.tup P1 s1.rep r.reverse hq⟩
  | _ => exact P1.no.elim
end VI

set_option maxRecDepth 100000
set_option maxHeartbeats 1000000
/-! VX: instances: what stands in them, what is called of them. -/
namespace VI
open PySem PySem.Spec PyProof.Rows L2 RZ
/-- in its place, or at the end -/
def putFA (f : Str) (v : AV) : List (Str × AV) → List (Str × AV)
  | [] => [(f, v)]
  | (g, x) :: r => if g = f then (g, v) :: r else (g, x) :: putFA f v r
def lookF (f : Str) : List (Str × AV) → Option AV
  | [] => none
  | (g, x) :: r => if f = g then some x else lookF f r
theorem look_putFA (f g : Str) (v : AV) : ∀ l : List (Str × AV), lookF g (putFA f v l) = if g = f then some v else lookF g l
  | [] => rfl
  | (k, x) :: r => by
    unfold putFA
    by_cases h : k = f
    · subst h
      rw [if_pos rfl]
      by_cases hg : g = k
      · simp [lookF, hg]
      · simp [lookF, hg]
    · rw [if_neg h]
      by_cases hg : g = k
      · have : g ≠ f := fun e => h (hg ▸ e)
        simp [lookF, hg, h]
      · simp only [lookF, if_neg hg]
        exact look_putFA f g v r
theorem len_putFA (f : Str) (v : AV) : ∀ l : List (Str × AV), (putFA f v l).length ≤ l.length + 1
  | [] => by simp [putFA]
  | (k, x) :: r => by
    unfold putFA
    split
    · simp
    · have := len_putFA f v r
      simp; omega
section
variable {K : PySem.W.Frag} {W : Wd}
theorem RKs.lookF {l : List (Str × AV)} {xs : List (Str × V)} (h : RKs K W l xs) (f : Str) {a : AV} (e : VI.lookF f l = some a) : ∃ x, xs.lookup f = some x ∧ RV K W a x := by
  revert e
  refine h.cases (motive := fun l xs => VI.lookF f l = some a → ∃ x, xs.lookup f = some x ∧ RV K W a x) (fun e => by cases e) fun q b x l xs r _ ih e => ?_
  simp only [VI.lookF] at e
  by_cases hq : f = q
  · rw [if_pos hq] at e
    cases e
    exact ⟨x, by simp [List.lookup, hq], r⟩
  · rw [if_neg hq] at e
    obtain ⟨y, h1, h2⟩ := ih e
    refine ⟨y, ?_, h2⟩
    have : (f == q) = false := by simpa using hq
    simp only [List.lookup, this]
    exact h1
theorem RKs.lookFN {l : List (Str × AV)} {xs : List (Str × V)} (h : RKs K W l xs) (f : Str) (e : VI.lookF f l = none) : xs.lookup f = none := by
  revert e
  refine h.cases (motive := fun l xs => VI.lookF f l = none → xs.lookup f = none) (fun _ => rfl) fun q b x l xs r _ ih e => ?_
  simp only [VI.lookF] at e
  by_cases hq : f = q
  · rw [if_pos hq] at e; cases e
  · rw [if_neg hq] at e
    have : (f == q) = false := by simpa using hq
    simp only [List.lookup, this]
    exact ih e
theorem RKs.putFA {l : List (Str × AV)} {xs : List (Str × V)} (h : RKs K W l xs) (f : Str) {a : AV} {x : V} (r : RV K W a x) : RKs K W (VI.putFA f a l) (putF f x xs) := by
  refine h.cases (motive := fun l xs => RKs K W (VI.putFA f a l) (putF f x xs)) ⟨rfl, .cons r .nil⟩ fun q b y l xs ry t ih => ?_
  simp only [VI.putFA, putF]
  by_cases hq : q = f
  · rw [if_pos hq, if_pos hq]; exact RKs.cons_iff.mpr ⟨rfl, r, t⟩
  · rw [if_neg hq, if_neg hq]; exact RKs.cons_iff.mpr ⟨rfl, ry, ih⟩
end
/-- the class of a name -/
def ClsN (K : PySem.W.Frag) (c : Str) (C : Addr) : Prop := PySem.W.nsIn K mainGlobals c = some (some (.ref C)) ∧ Cls K C
theorem ClsN.one {K : PySem.W.Frag} {c : Str} {C D : Addr} (h : ClsN K c C) (e : PySem.W.nsIn K mainGlobals c = some (some (.ref D))) : D = C := by
  rw [h.1] at e; cases e; rfl
/-! ### o.f -/
def insOf (c : Str) (S : Store) : AV → Option (Nat × List (Str × AV))
  | .loc i => match S[i]? with
    | some (.ins d l) => if d = c then some (i, l) else none
    | _ => none
  | _ => none
theorem insOf_is {K : PySem.W.Frag} {W : Wd} {S : Store} {c : Str} {C : Addr} {a : AV} {x : V} {i : Nat} {l : List (Str × AV)} (hc : ClsN K c C) (R : Rep K W S) (r : RV K W a x) (e : insOf c S a = some (i, l)) :
    a = .loc i ∧ i < W.n ∧ S[i]? = some (.ins c l) ∧ x = .ref (W.φ i) ∧ ∃ dx xs, W.H (W.φ i) = some (.ins C dx xs) ∧ RKs K W l xs := by
  cases a with
  | loc j =>
    simp only [insOf] at e
    split at e
    · rename_i d m em
      split at e
      · rename_i hd
        subst hd
        cases e
        cases r with
        | loc hi =>
          obtain ⟨D, dx, xs, h1, h2, h3⟩ := R.obj i _ em
          have := hc.one h2
          subst this
          exact ⟨rfl, hi, em, rfl, dx, xs, h1, h3⟩
      · cases e
    · cases e
  | _ => cases e
def fFld (c f : Str) : Form where
  mat := fun _ e => match e with
    | .Attribute (.Name x p) n _ => if n = f then some [.Name x p] else none
    | _ => none
  sem := fun ms ρ S => match ms with
    | [mo] => (mo ρ S).bd fun x S1 => optD (insOf c S1 x) fun q => optD (lookF f q.2) fun v => .ok v S1
    | _ => .no
section
variable {P : Program} {w : World} {K : PySem.W.Frag} {mg : Str → Option Value} {base : Heap} {k : Nat}
theorem fFld_ok {c f : Str} {C : Addr} (hc : ClsN K c C) (hf : NoAttr K C f) : FormOk P w K mg base k (fFld c f) := by
  intro N X sc e es ms g hm hp
  have h' : ∃ x p pos, e = .Attribute (.Name x p) f pos ∧ es = [.Name x p] := by
    simp only [fFld] at hm
    split at hm
    · split at hm
      · rename_i hn
        subst hn
        cases hm
        exact ⟨_, _, _, rfl, rfl⟩
      · cases hm
    · cases hm
  obtain ⟨x, p, pos, rfl, rfl⟩ := h'
  obtain ⟨mo, rfl, ho, _⟩ := hp.one
  obtain ⟨rfl, rfl, rfl, rfl, rfl, -, -, -, -, -⟩ := g
  refine (pe_fld ho rfl).w fun σ H Q h => ?_
  obtain ⟨W, ρ, S, st, PP⟩ := h
  have PP : PostO X.K W ((mo ρ S).bd fun x S1 => optD (insOf c S1 x) fun q => optD (lookF f q.2) fun v => .ok v S1) Q := PP
  refine T.bd st PP fun a S1 W1 v L1 s1 r1 P1 => ?_
  obtain ⟨⟨i, l⟩, e1, P2⟩ := P1.opt
  obtain ⟨b, e2, P3⟩ := P2.opt
  clear P1 P2
  obtain ⟨rfl, hi, em, rfl, dx, xs, h1, h2⟩ := insOf_is hc s1.rep r1 e1
  obtain ⟨y, h3, h4⟩ := h2.lookF f e2
  exact ⟨_, C, dx, xs, y, rfl, h1, hc.2, hf, h3, P3.val s1.rep h4⟩
/-! ### o.f = value -/
def sFldS (c f : Str) : FormS where
  mat := fun _ _ s => match s with
    | .Assign [.Attribute (.Name x p) n _] v _ => if n = f then some [v, .Name x p] else none
    | _ => none
  sem := fun ms ρ S => match ms with
    | [mv, mo] => match (mv ρ S).bd fun v S1 => (mo ρ S1).bd fun x S2 => optD (insOf c S2 x) fun q => if q.2.length < 1000 then Out.ok AV.non (S2.set q.1 (.ins c (putFA f v q.2))) else .no with
      | .ok _ S3 => .nx ρ S3
      | _ => .no
    | _ => .no
theorem sFldS_ok {c f : Str} {C : Addr} (hc : ClsN K c C) (hf : NoAttr K C f) : FormSOk P w K mg base k (sFldS c f) := by
  intro N X sc Wx s es ms g hm hp
  have h' : ∃ x p p2 v pos, s = .Assign [.Attribute (.Name x p) f p2] v pos ∧ es = [v, .Name x p] := by
    simp only [sFldS] at hm
    split at hm
    · split at hm
      · rename_i hn
        subst hn
        cases hm
        exact ⟨_, _, _, _, _, rfl, rfl⟩
      · cases hm
    · cases hm
  obtain ⟨x, p, p2, v, pos, rfl, rfl⟩ := h'
  obtain ⟨mv, mo, rfl, hv, ho, _, _⟩ := hp.two
  have hs : swapsWith v (some (.Attribute (.Name x p) f p2)) pos.line X.env = pure false := by unfold swapsWith; cases v <;> rfl
  have gk := g.toGE.hK
  subst gk
  refine (ps_fld ho hv hs).w fun D σ H h => ?_
  obtain ⟨W, ρ, S, st, PP⟩ := h
  have PP : PostS X.K Wx W (match (mv ρ S).bd fun v S1 => (mo ρ S1).bd fun x S2 => optD (insOf c S2 x) fun q => if q.2.length < 1000 then Out.ok AV.non (S2.set q.1 (.ins c (putFA f v q.2))) else .no with
      | .ok _ S3 => .nx ρ S3
      | _ => .no) D := PP
  cases e : (mv ρ S).bd fun v S1 => (mo ρ S1).bd fun x S2 => optD (insOf c S2 x) fun q => if q.2.length < 1000 then Out.ok AV.non (S2.set q.1 (.ins c (putFA f v q.2))) else .no with
  | ok r S3 =>
    rw [e] at PP
    obtain ⟨b, S1, e1, e⟩ := Out.bd_eq e
    obtain ⟨a, S2, e2, e⟩ := Out.bd_eq e
    cases e3 : insOf c S2 a with
    | none => rw [e3] at e; cases e
    | some q =>
      obtain ⟨i, l⟩ := q
      rw [e3, optD_some] at e
      split at e
      · rename_i hz
        cases e
        refine ⟨W, ρ, S, st, b, S1, e1, fun W1 y L1 R1 ry => ⟨W1, ρ, S1, st.next L1 R1, a, S2, e2, fun W2 u L2 R2 ru => ?_⟩⟩
        obtain ⟨rfl, hi, em, rfl, dx, xs, h1, h2⟩ := insOf_is hc R2 ru e3
        refine ⟨_, C, dx, xs, rfl, h1, hc.2, hf, by have := h2.len; simp only at hz; omega, ?_⟩
        have Lw := Le.wr (o := .ins C dx (putF f y xs)) R2 hi (R2.nlk em rfl)
        exact PP (W2.lay (W2.φ i) (.ins C dx (putF f y xs))) σ ((L1.trans L2).trans Lw) (R2.wr hi (R2.nlk em rfl) ⟨C, dx, _, upd_same, hc.1, (h2.mw Lw.lw).putFA f ((ry.mono L2).mono Lw)⟩) (st.er.mono ((L1.trans L2).trans Lw))
      · cases e
  | ex r S3 => rw [e] at PP; exact PP.elim
  | no => rw [e] at PP; exact PP.elim
end
/-! ### o.m(..) -/
section
variable {X : Cx}
theorem pa_seq : ∀ {es : List Expr} {ms : List Dn}, PEs X es ms → PA X es (TL X.K (seqD ms))
  | _, _, .nil => pa_nilV
  | _, _, .cons h o r => pa_consV h (pa_seq r) o
theorem seq_star : ∀ {es : List Expr} {ms : List Dn}, PEs X es ms → (starEach es X.env).any (·.1) = false
  | _, _, .nil => rfl
  | _, _, .cons h o r => by rw [odd_star o]; show (false || _) = false; rw [seq_star r]; rfl
theorem pe_methG {o : Expr} {es : List Expr} {m : Str} {apos pos : Pos} {ta : TE} {t : TA} {C f : Addr} {fd : FuncData} {ps : List Str} {sp : Sp} {k : Nat} {CX : CXT} {E : XK} (he : PE X o ta) (c : Cls X.K C) (hm : Meth X.K C m f) (F : FnOk X.prog X.w X.K X.mg X.base CX k f fd ps sp) (hr : Room k X.A) (hb : Binds X.K fd ps []) (hx : Passes CX X E) (ha : PA X es t)
    (hnil : es = [] → ∀ σ H Q, t σ H Q → Q [] H) (hbase : attributeBase o m X.env (eval o X.env) = eval o X.env) (hz : es.length < 20) (hs : (starEach es X.env).any (·.1) = false) (h1 : ∀ e r, es = e :: r → odd e = false) (hline : (apos.endLine == pos.line) = true) :
    PE X (.Call (.Attribute o m apos) es [] pos) (tMeth C m sp [] E ta t) := by
  refine ⟨fun pins s σ H Q I h => ?_⟩
  rw [arm_eval_Call, hbase]
  refine wpAny_bind (thn (he.run pins s σ H _ I h) fun u s1 hv => ?_)
  obtain ⟨x, H1, I1, rx, a, dx, fs, ex, ea, l, q⟩ := hv
  subst ex
  obtain rfl : u = Value.ref a := rx
  refine wpAny_bind (wpAny_standAt ?_)
  have form : methodCallForm (es.length + ([] : List Keyword).length) (backTo pos (starEach es X.env)) (backToKw pos (keywordEach [] X.env)) = true := few_ok hz hs
  have at' : methodCallPos true o X.env apos pos = pure pos := by unfold methodCallPos; simp [hline]
  unfold methodCall
  rw [form]
  refine wpAny_bind (wpAny_holding (getmeth_ok I1 ea c hm l ?_))
  refine wpAny_bind (wpAny_of_eq at' ?_)
  cases es with
  | nil =>
    have q2 := hnil rfl _ _ _ q
    exact PySem.W.callWith_K0 (first := [.ref a]) I1.kIn hm.kp (run_fn (us := [.ref a]) (vs := [.ref a]) F hr hb .nil hx I1 (.cons rfl .nil) q2)
  | cons e r =>
    have o1 := h1 e r rfl
    have hs2 : (starEach r X.env).any (·.1) = false := by
      rw [odd_star o1] at hs
      exact hs
    refine PySem.W.callWith_K (first := [.ref a]) (h₀ := X.base) I.ok.mod.kin hm.kp (thn (ha.run pos pins s1 σ H1 _ I1 q) fun us s2 hv => ?_) (odd_star o1) (backTo_any hs2)
    obtain ⟨vs, H2, I2, r, q2⟩ := hv
    exact ⟨I2.kIn, run_fn (us := .ref a :: us) (vs := .ref a :: vs) F hr hb .nil hx I2 (.cons rfl r) q2⟩
end
/-- the def that stands in a class keeps its promise -/
def FxM (P : Program) (w : World) (K : PySem.W.Frag) (mg : Str → Option Value) (base : Heap) (k : Nat) (c m : Str) (d : Fn) : Prop :=
  ∃ C f fd ps, ClsN K c C ∧ Meth K C m f ∧ Binds K fd ps [] ∧ FnOk P w K mg base CX0 k f fd ps (spOf K d)
def fMeth (c m : Str) (d : Fn) : Form where
  mat := fun _ e => match e with
    | .Call (.Attribute (.Name x p) a ap) es [] cp => if (decide (a = m) && decide (es.length < 20) && (ap.endLine == cp.line)) = true then some (.Name x p :: es) else none
    | _ => none
  sem := fun ms ρ S => match ms with
    | mo :: ml => (mo ρ S).bd fun x S1 => optD (insOf c S1 x) fun q => if lookF m q.2 = none then (seqD ml ρ S1).bd fun xs S2 => d (x :: xs) S2 else .no
    | _ => .no
section
variable {P : Program} {w : World} {K : PySem.W.Frag} {mg : Str → Option Value} {base : Heap} {k : Nat}
theorem fMeth_ok {c m : Str} {d : Fn} (F : FxM P w K mg base k c m d) : FormOk P w K mg base k (fMeth c m d) := by
  intro N X sc e es ms g hm hp
  have h' : ∃ x p ap as cp, e = .Call (.Attribute (.Name x p) m ap) as [] cp ∧ es = .Name x p :: as ∧ as.length < 20 ∧ (ap.endLine == cp.line) = true := by
    simp only [fMeth] at hm
    split at hm
    · split at hm
      · rename_i hc
        simp only [Bool.and_eq_true, decide_eq_true_eq] at hc
        obtain ⟨⟨rfl, h2⟩, h3⟩ := hc
        cases hm
        exact ⟨_, _, _, _, _, rfl, rfl, h2, h3⟩
      · cases hm
    · cases hm
  obtain ⟨x, p, ap, as, cp, rfl, rfl, hz, hl⟩ := h'
  rcases hp with _ | ⟨ho, o1, hp⟩
  rename_i mo ml
  obtain ⟨C, f, fd, ps, hc, hmt, hb, F⟩ := F
  have hr := g.room
  obtain ⟨rfl, rfl, rfl, rfl, rfl, -, -, -, -, -⟩ := g
  refine (pe_methG ho hc.2 hmt F hr hb pass0 (pa_seq hp) ?_ rfl hz (seq_star hp) ?_ hl).w fun σ H Q h => ?_
  · rintro rfl σ H Q h
    cases hp
    obtain ⟨W, ρ, S, st, r, S', e, q⟩ := h
    cases e
    rw [← st.hH]
    exact q W [] (Le.refl W) st.rep .nil
  · rintro e r rfl
    cases hp with
    | cons _ o _ => exact o
  · obtain ⟨W, ρ, S, st, PP⟩ := h
    have PP : PostO X.K W ((mo ρ S).bd fun x S1 => optD (insOf c S1 x) fun q => if lookF m q.2 = none then (seqD ml ρ S1).bd fun xs S2 => d (x :: xs) S2 else .no) Q := PP
    refine T.bd st PP fun a S1 W1 v L1 s1 r1 P1 => ?_
    obtain ⟨⟨i, l⟩, e1, P2⟩ := P1.opt
    obtain ⟨hn, P3⟩ := P2.ite
    clear P1 P2
    obtain ⟨rfl, hi, em, rfl, dx, xs, h1, h2⟩ := insOf_is hc s1.rep r1 e1
    refine ⟨_, dx, xs, rfl, h1, h2.lookFN m hn, ?_⟩
    refine TL.bd s1 P3 fun as S2 W2 vs L2 s2 r2 P2 => ?_
    rw [List.append_nil]
    exact ⟨W2, S2, .loc i :: as, rfl, s2.rep, .cons (r1.mono L2) r2, P2⟩
end
/-! ### C(..) -/
/-- the class is made so -/
def FxI (P : Program) (w : World) (K : PySem.W.Frag) (mg : Str → Option Value) (base : Heap) (k : Nat) (c : Str) (d : Fn) : Prop :=
  ∃ C f fd ps, ClsN K c C ∧ mg c = some (.ref C) ∧ Mk K C f ∧ Binds K fd ps [] ∧ FnOk P w K mg base CX0 k f fd ps (spOf K d)
def fMake (c : Str) (d : Fn) : Form where
  mat := fun sc e => match e with
    | .Call (.Name x _) (a :: es) [] _ => if (decide (x = c) && glB sc x) = true then some (a :: es) else none
    | _ => none
  sem := fun ms ρ S => (seqD ms ρ S).bd fun xs S1 => (d (.loc S1.length :: xs) (S1 ++ [.ins c []])).bd fun r S2 => match r with
    | .non => .ok (.loc S1.length) S2
    | _ => .no
section
variable {P : Program} {w : World} {K : PySem.W.Frag} {mg : Str → Option Value} {base : Heap} {k : Nat}
theorem fMake_ok {c : Str} {d : Fn} (F : FxI P w K mg base k c d) : FormOk P w K mg base (k + 1) (fMake c d) := by
  intro N X sc e es ms g hm hp
  have h' : ∃ x p a as pos, e = .Call (.Name x p) (a :: as) [] pos ∧ es = a :: as ∧ x = c ∧ glB sc x = true := by
    simp only [fMake] at hm
    split at hm
    · split at hm
      · rename_i hc
        simp only [Bool.and_eq_true, decide_eq_true_eq] at hc
        cases hm
        exact ⟨_, _, _, _, _, rfl, rfl, hc.1, hc.2⟩
      · cases hm
    · cases hm
  obtain ⟨x, p, a, as, pos, rfl, rfl, rfl, g1⟩ := h'
  obtain ⟨C, f, fd, ps, hc, hmg, M, hb, F⟩ := F
  have q1 := g.gl g1
  have hr := g.room
  obtain ⟨rfl, rfl, rfl, rfl, rfl, -, -, -, -, -⟩ := g
  have o1 : odd a = false := by cases hp with | cons _ o _ => exact o
  have hs := seq_star hp
  have hs2 : (starEach as X.env).any (·.1) = false := by
    rw [odd_star o1] at hs
    exact hs
  refine (pe_make M F hr q1.1 hmg hb .nil pass0 (pa_seq hp) q1.2 (odd_star o1) (backTo_any hs2)).w fun σ H Q h => ?_
  obtain ⟨W, ρ, S, st, PP⟩ := h
  have PP : PostO X.K W ((seqD ms ρ S).bd fun xs S1 => (d (.loc S1.length :: xs) (S1 ++ [.ins x []])).bd fun r S2 => match r with
    | .non => .ok (.loc S1.length) S2
    | _ => .no) Q := PP
  refine TL.bd st PP fun xs S1 W1 vs L1 s1 r1 P1 => ?_
  intro y dx ny ndx ne
  obtain ⟨rr, S', e, P2⟩ := P1
  obtain ⟨r, S2, e1, e2⟩ := Out.bd_eq e
  have er : r = .non ∧ rr = .loc S1.length ∧ S' = S2 := by
    cases r <;> first | (cases e2; exact ⟨rfl, rfl, rfl⟩) | cases e2
  obtain ⟨rfl, rfl, rfl⟩ := er
  -- the dict of it, then it
  have R2 := s1.rep.lay (p := dx) (o := .own y) ndx
  have hy : (W1.lay dx (.own y)).H y = none := by show upd W1.H dx (.own y) y = none; rw [upd_ne (Ne.symm ne)]; exact ny
  have La := Le.lay (o := .own y) ndx
  have Lb := Le.add (W := W1.lay dx (.own y)) (o := .ins C dx []) hy
  have R3 : Rep X.K ((W1.lay dx (.own y)).add y (.ins C dx [])) (S1 ++ [.ins x []]) := R2.add hy ⟨C, dx, [], upd_same, hc.1, RKs.nil⟩
  have hlen := s1.rep.len
  have hn : ((W1.lay dx (.own y)).add y (.ins C dx [])).n = W1.n + 1 := rfl
  have hφ : ((W1.lay dx (.own y)).add y (.ins C dx [])).φ S1.length = y := by
    show (if S1.length = W1.n then y else _) = y
    rw [if_pos hlen]
  have rl : RV X.K ((W1.lay dx (.own y)).add y (.ins C dx [])) (.loc S1.length) (.ref y) := by
    have := RV.loc (K := X.K) (W := (W1.lay dx (.own y)).add y (.ins C dx [])) (i := S1.length) (by rw [hn]; omega)
    rwa [hφ] at this
  refine ⟨(W1.lay dx (.own y)).add y (.ins C dx []), S1 ++ [.ins x []], .loc S1.length :: xs, rfl, R3, ?_, .non, S', e1, fun W3 z L3 R4 rz => ?_⟩
  · rw [List.append_nil]
    exact .cons rl (r1.mono (La.trans Lb))
  · cases rz
    exact ⟨rfl, P2 W3 _ ((La.trans Lb).trans L3) R4 (rl.mono L3)⟩
/-! ### o.f += value -/
def sFldA (c f : Str) : FormS where
  mat := fun _ _ s => match s with
    | .AugAssign (.Attribute (.Name x p) n _) .Add v _ => if n = f then some [.Name x p, v] else none
    | _ => none
  sem := fun ms ρ S => match ms with
    | [mo, mv] => match (mo ρ S).bd fun x S1 => optD (insOf c S1 x) fun q => optD (lookF f q.2) fun u => (mv ρ S1).bd fun v S2 => match u, v with
        | .int i, .int j => optD (insOf c S2 x) fun q2 => if q2.2.length < 1000 then Out.ok AV.non (S2.set q2.1 (.ins c (putFA f (.int (i + j)) q2.2))) else .no
        | _, _ => .no with
      | .ok _ S3 => .nx ρ S3
      | _ => .no
    | _ => .no
theorem sFldA_ok {c f : Str} {C : Addr} (hc : ClsN K c C) (hf : NoAttr K C f) : FormSOk P w K mg base k (sFldA c f) := by
  intro N X sc Wx s es ms g hm hp
  have h' : ∃ x p p2 v pos, s = .AugAssign (.Attribute (.Name x p) f p2) .Add v pos ∧ es = [.Name x p, v] := by
    simp only [sFldA] at hm
    split at hm
    · split at hm
      · rename_i hn
        subst hn
        cases hm
        exact ⟨_, _, _, _, _, rfl, rfl⟩
      · cases hm
    · cases hm
  obtain ⟨x, p, p2, v, pos, rfl, rfl⟩ := h'
  obtain ⟨mo, mv, rfl, ho, hv, _, _⟩ := hp.two
  have gk := g.toGE.hK
  subst gk
  refine (ps_fldaug ho hv in_add).w fun D σ H h => ?_
  obtain ⟨W, ρ, S, st, PP⟩ := h
  simp only [sFldA] at PP
  cases e : (mo ρ S).bd fun x S1 => optD (insOf c S1 x) fun q => optD (lookF f q.2) fun u => (mv ρ S1).bd fun v S2 => match u, v with
        | .int i, .int j => optD (insOf c S2 x) fun q2 => if q2.2.length < 1000 then Out.ok AV.non (S2.set q2.1 (.ins c (putFA f (.int (i + j)) q2.2))) else .no
        | _, _ => .no with
  | ok r S3 =>
    rw [e] at PP
    obtain ⟨a, S1, e1, e⟩ := Out.bd_eq e
    cases e2 : insOf c S1 a with
    | none => rw [e2] at e; cases e
    | some q =>
      obtain ⟨i, l⟩ := q
      rw [e2, optD_some] at e
      cases e3 : lookF f l with
      | none => simp only [e3] at e; cases e
      | some u =>
        simp only [e3, optD_some] at e
        obtain ⟨b, S2, e4, e⟩ := Out.bd_eq e
        have hu : ∃ n m, u = .int n ∧ b = .int m := by
          cases u with
          | int n => cases b with
            | int m => exact ⟨n, m, rfl, rfl⟩
            | _ => cases e
          | _ => cases e
        obtain ⟨n, m, rfl, rfl⟩ := hu
        simp only at e
        cases e5 : insOf c S2 a with
        | none => rw [e5] at e; cases e
        | some q2 =>
          obtain ⟨j, l2⟩ := q2
          rw [e5, optD_some] at e
          split at e
          · rename_i hz
            cases e
            refine ⟨W, ρ, S, st, a, S1, e1, fun W1 y L1 R1 ry => ?_⟩
            obtain ⟨rfl, hi, em, rfl, dx, xs, h1, h2⟩ := insOf_is hc R1 ry e2
            obtain ⟨z, h3, h4⟩ := h2.lookF f e3
            cases h4
            refine ⟨_, C, dx, xs, _, rfl, h1, hc.2, hf, h3, W1, ρ, S1, st.next L1 R1, .int m, S2, e4, fun W2 u2 L2 R2 ru => ?_⟩
            cases ru
            have ry2 := ry.mono L2
            obtain ⟨ej, hi2, em2, ex, dx2, xs2, h5, h6⟩ := insOf_is hc R2 ry2 e5
            cases ej
            have inj : ∀ {a b : Addr}, V.ref a = V.ref b → a = b := fun h => by cases h; rfl
            have eφ : W2.φ i = W1.φ i := (inj ex).symm
            rw [eφ] at h5
            refine ⟨n, m, rfl, rfl, dx2, xs2, h5, by have := h6.len; simp only at hz; omega, ?_⟩
            have Lw := Le.wr (o := .ins C dx2 (putF f (.int (n + m)) xs2)) R2 hi2 (R2.nlk em2 rfl)
            have := PP (W2.lay (W2.φ i) (.ins C dx2 (putF f (.int (n + m)) xs2))) σ ((L1.trans L2).trans Lw) (R2.wr hi2 (R2.nlk em2 rfl) ⟨C, dx2, _, upd_same, hc.1, (h6.mw Lw.lw).putFA f (.int _)⟩) (st.er.mono ((L1.trans L2).trans Lw))
            rw [← eφ]
            exact this
          · cases e
  | ex r S3 => rw [e] at PP; exact PP.elim
  | no => rw [e] at PP; exact PP.elim
end
/-! ### for k in d, the dict walked just now -/
theorem key_rv {K : PySem.W.Frag} {W : Wd} (c : Key) : RV K W (keyAV c) (kV c) := by
  cases c with
  | inl i => exact .int i
  | inr x => exact .str x
theorem wk_keys {K : PySem.W.Frag} {W : Wd} {d : Addr} {o : Obj} {l : List (Key × AV)} {kvs : List (Key × V)} (hl : W.lkd d) (hd : W.H d = some (.frz o (.dK kvs))) (rk : l.map (·.1) = kvs.map (·.1)) : WkOk K W (l.map fun p => keyAV p.1) [] (Itk d o kvs) := by
  have hlen : l.length = kvs.length := by simpa using congrArg List.length rk
  refine ⟨fun H => H d = some (.frz o (.dK kvs)), (Itk d o kvs).yld, ⟨fun i H hi G => ?_, fun H G => ?_, fun _ _ _ _ _ _ y => y⟩, fun W2 S L R _ => L.ll d _ hl hd, fun W2 S i x H' L R _ y => ?_⟩
  · exact ⟨G, by rw [List.length_map] at hi; omega⟩
  · exact ⟨G, by rw [List.length_map]; omega⟩
  · obtain ⟨rfl, c, v, e, rfl⟩ := y
    refine ⟨W2, keyAV c, rfl, Le.refl _, R, ?_, key_rv c⟩
    have e2 : (l.map (·.1))[i]? = some c := by rw [rk, List.getElem?_map, e]; rfl
    rw [List.getElem?_map] at e2 ⊢
    cases e3 : l[i]? with
    | none => rw [e3] at e2; cases e2
    | some p => rw [e3] at e2; cases e2; rfl
def fiKeys : FormI where
  mat := fun _ _ e => some [e]
  sem := fun ms ρ S => match ms with
    | [md] => (md ρ S).bd fun x S1 => match x with
      | .loc i => match S1[i]? with
        | some (.dct true l) => .ok (l.map fun p => keyAV p.1, []) S1
        | _ => .no
      | _ => .no
    | _ => .no
theorem fiKeys_ok {P : Program} {w : World} {K : PySem.W.Frag} {mg : Str → Option Value} {base : Heap} {k : Nat} : FormIOk P w K mg base k fiKeys := by
  intro N X sc tg e es ms g hm hp
  cases hm
  obtain ⟨md, rfl, hd, _⟩ := hp.one
  obtain ⟨rfl, rfl, rfl, rfl, rfl, -, -, -, -, -⟩ := g
  refine (pi_keys hd).wk fun σ H R h => ?_
  obtain ⟨W, ρ, S, st, w', S', e, Q⟩ := h
  have e : ((md ρ S).bd fun x S1 => match x with
      | .loc i => match S1[i]? with
        | some (.dct true l) => Out.ok (l.map fun p => keyAV p.1, ([] : List (Nat × List AV))) S1
        | _ => .no
      | _ => .no) = .ok w' S' := e
  obtain ⟨x, S1, k1, e2⟩ := Out.bd_eq e
  refine ⟨W, ρ, S, st, x, S1, k1, fun W1 v L1 R1 r1 => ?_⟩
  cases x with
  | loc i =>
    simp only at e2
    split at e2
    · rename_i l em
      cases e2
      cases r1 with
      | loc hi =>
        obtain ⟨z, kvs, o, h1, h2⟩ := R1.obj i _ em
        exact ⟨_, o, rfl, .inl ⟨kvs, h1, Q W1 _ L1 R1 (wk_keys z h1 h2.1)⟩⟩
    · cases e2
  | _ => cases e2
/-! ### o[i] += value, of a list of ints -/
def getLR (K : PySem.W.Frag) : V → V → Hp → VK → Prop := fun o i H Q => ∃ p xs k z, o = .ref p ∧ i = .int k ∧ H p = some (.lst xs) ∧ 0 ≤ k ∧ k < 2 ^ 63 ∧ xs[k.toNat]? = some z ∧ Q z H
theorem get_L {X : Cx} : PGet X (getLR X.K) := by
  rintro pins s σ H o i ov iv Q I ro ri ⟨p, xs, k, z, rfl, rfl, h1, h0, h2, h3, q⟩
  obtain rfl : ov = Value.ref p := ro
  obtain ⟨t, rfl⟩ := ri
  obtain ⟨its, r, pl, _⟩ := I.list (SqL.of h1)
  obtain ⟨y, ey, ry⟩ := r.get h3
  exact wpAny_getItem_list pl.isList h0 h2 (by simpa using ey) ⟨z, H, I, ry, q⟩
def augID (mo mi mv : Dn) (ρ : Ev) (S : Store) : Out AV := (mo ρ S).bd fun x S1 => (mi ρ S1).bd fun y S2 => match x, y with
  | .loc p, .int k => match S2[p]? with
    | some (.lst l) => if 0 ≤ k ∧ k < 2 ^ 63 then match l[k.toNat]? with
      | some (.int u) => (mv ρ S2).bd fun v S3 => match v with
        | .int m => optD (setD (.loc p) (.int k) (.int (u + m)) S3) fun S4 => .ok .non S4
        | _ => .no
      | _ => .no
      else .no
    | _ => .no
  | _, _ => .no
def sAugI : FormS where
  mat := fun _ _ s => match s with
    | .AugAssign (.Subscript o (.Name x p) _) .Add v _ => some [o, .Name x p, v]
    | _ => none
  sem := fun ms ρ S => match ms with
    | [mo, mi, mv] => match augID mo mi mv ρ S with
      | .ok _ S3 => .nx ρ S3
      | _ => .no
    | _ => .no
theorem sAugI_ok {P : Program} {w : World} {K : PySem.W.Frag} {mg : Str → Option Value} {base : Heap} {k : Nat} : FormSOk P w K mg base k sAugI := by
  intro N X sc Wx s es ms g hm hp
  have h' : ∃ o x p p2 v pos, s = .AugAssign (.Subscript o (.Name x p) p2) .Add v pos ∧ es = [o, .Name x p, v] := by
    simp only [sAugI] at hm
    split at hm
    · cases hm; exact ⟨_, _, _, _, _, _, rfl, rfl⟩
    · cases hm
  obtain ⟨o, x, p, p2, v, pos, rfl, rfl⟩ := h'
  obtain ⟨mo, mi, mv, rfl, ho, hi, hv, _, _, _⟩ := hp.three
  have hu := g.toGE.hu
  have gk := g.toGE.hK
  subst gk
  refine (ps_augS ho hi get_L hv ip_add (set_V (by omega))).w fun D σ H h => ?_
  obtain ⟨W, ρ, S, st, PP⟩ := h
  have PP : PostS X.K Wx W (match augID mo mi mv ρ S with
      | .ok _ S3 => .nx ρ S3
      | _ => .no) D := PP
  cases e : augID mo mi mv ρ S with
  | ok r S4 =>
    rw [e] at PP
    unfold augID at e
    obtain ⟨a, S1, e1, e⟩ := Out.bd_eq e
    obtain ⟨b, S2, e2, e⟩ := Out.bd_eq e
    split at e
    · rename_i q kk e
      split at e
      · rename_i l el
        split at e
        · rename_i hk
          split at e
          · rename_i u eu
            obtain ⟨c, S3, e3, e⟩ := Out.bd_eq e
            cases c with
            | int m =>
              simp only at e
              cases e4 : setD (.loc q) (.int kk) (.int (u + m)) S3 with
              | none => rw [e4] at e; cases e
              | some S5 =>
                rw [e4, optD_some] at e
                cases e
                refine ⟨W, ρ, S, st, .loc q, S1, e1, fun W1 x1 L1 R1 r1 => ⟨W1, ρ, S1, st.next L1 R1, .int kk, S2, e2, fun W2 x2 L2 R2 r2 => ?_⟩⟩
                cases r2
                have r1' := r1.mono L2
                cases r1' with
                | loc hq =>
                  obtain ⟨xs, h1, h2⟩ := R2.obj q _ el
                  obtain ⟨z, h3, h4⟩ := h2.get eu
                  cases h4
                  refine ⟨_, xs, kk, _, rfl, rfl, h1, hk.1, hk.2, h3, W2, ρ, S2, (st.next L1 R1).next L2 R2, .int m, S3, e3, fun W3 x3 L3 R3 r3 => ?_⟩
                  cases r3
                  refine ⟨u, m, rfl, rfl, W3, S3, .loc q, .int kk, .int (u + m), rfl, R3, ?_, .int _, .int _, S4, e4, fun W4 L4 R4 => PP W4 σ (((L1.trans L2).trans L3).trans L4) R4 (st.er.mono (((L1.trans L2).trans L3).trans L4))⟩
                  have := (RV.loc (K := X.K) (W := W2) hq).mono L3
                  exact this
            | _ => cases e
          · cases e
        · cases e
      · cases e
    · cases e
  | ex r S3 => rw [e] at PP; exact PP.elim
  | no => rw [e] at PP; exact PP.elim
/-- the dict that stands in a field of what is in a slot -/
def lkF (c : Str) (i : Nat) (f : Str) (ρ : Ev) (S : Store) : Option Nat := match ρ[i]? with
  | some (some x) => match insOf c S x with
    | some q => match lookF f q.2 with
      | some (.loc j) => some j
      | _ => none
    | none => none
  | _ => none
/-! ### a class's defs keep their promises -/
section
variable {P : Program} {w : World} {K : PySem.W.Frag} {mg : Str → Option Value} {base : Heap} {k : Nat}
theorem fxm_ok {keep : Bool} {x qual c : Str} {st : Stmt} {f C : Addr} {fd : FuncData} {N ps : List Str} {body : St} (F : FunA K x qual st f fd) (hc : ClsN K c C) (hm : Meth K C x f) (hb : Binds K fd ps []) (Sc : FnScope N ps (defScope st)) (h : ceSs N (defScope st) body (defBody st) = true)
    (hl : LkS K mg (Fx P w K mg base k) (Go P w K mg base k) body) : FxM P w K mg base (k + 1) c x (mkFn keep ps.length N.length body) :=
  ⟨C, f, fd, ps, hc, hm, hb, fn_ok F Sc h hl⟩
theorem fxi_ok {keep : Bool} {x qual c : Str} {st : Stmt} {f C : Addr} {fd : FuncData} {N ps : List Str} {body : St} (F : FunA K x qual st f fd) (hc : ClsN K c C) (hg : mg c = some (.ref C)) (hm : Mk K C f) (hb : Binds K fd ps []) (Sc : FnScope N ps (defScope st)) (h : ceSs N (defScope st) body (defBody st) = true)
    (hl : LkS K mg (Fx P w K mg base k) (Go P w K mg base k) body) : FxI P w K mg base (k + 1) c (mkFn keep ps.length N.length body) :=
  ⟨C, f, fd, ps, hc, hg, hm, hb, fn_ok F Sc h hl⟩
theorem FxM.mono {j : Nat} {c m : Str} {d : Fn} (h : FxM P w K mg base j c m d) (hk : j ≤ k) : FxM P w K mg base k c m d :=
  let ⟨C, f, fd, ps, h1, h2, h3, h4⟩ := h; ⟨C, f, fd, ps, h1, h2, h3, h4.mono hk⟩
theorem FxI.mono {j : Nat} {c : Str} {d : Fn} (h : FxI P w K mg base j c d) (hk : j ≤ k) : FxI P w K mg base k c d :=
  let ⟨C, f, fd, ps, h1, h2, h3, h4, h5⟩ := h; ⟨C, f, fd, ps, h1, h2, h3, h4, h5.mono hk⟩
end
end VI

set_option maxRecDepth 100000
set_option maxHeartbeats 1000000
/-! VT: tuple(range(n)). -/
namespace VI
open PySem PySem.Spec PyProof.Rows L2 RZ
def fTupRg : Form where
  mat := fun sc e => match e with
    | .Call (.Name f _) [.Call (.Name r _) [x] [] _] [] _ => if (decide (f = Str.ofString "tuple") && decide (r = Str.ofString "range") && glB sc f && glB sc r) = true then some [x] else none
    | _ => none
  sem := fun ms ρ S => match ms with
    | [m] => (m ρ S).bd fun x S1 => match x with
      | .int j => if -(2 ^ 60) ≤ j ∧ j ≤ 10000000 then .ok (.tup ((List.range j.toNat).map fun (k : Nat) => .int k)) S1 else .no
      | _ => .no
    | _ => .no
theorem rgV_rv {K : PySem.W.Frag} {W : Wd} (j : Int) : RVs K W ((List.range j.toNat).map fun (k : Nat) => .int k) (rgV 0 j) := by
  have gen : ∀ l : List Nat, RVs K W (l.map fun (k : Nat) => .int k) (l.map fun i => V.int (0 + (i : Nat))) := fun l => by
    induction l with
    | nil => exact .nil
    | cons n l ih => exact .cons (by show RV K W (AV.int (n : Int)) (V.int (0 + (n : Int))); rw [Int.zero_add]; exact .int _) ih
  have e : rgV 0 j = (List.range j.toNat).map fun i => V.int (0 + (i : Nat)) := by unfold rgV; rw [Int.sub_zero]
  rw [e]; exact gen _
theorem fTupRg_ok {P : Program} {w : World} {K : PySem.W.Frag} {mg : Str → Option Value} {base : Heap} {k : Nat} (h1 : mg "tuple" = none) (h2 : mg "range" = none) : FormOk P w K mg base k fTupRg := by
  intro N X sc e es ms gx hmt hp
  have h' : ∃ p1 p2 x q1 q2, e = .Call (.Name (Str.ofString "tuple") p1) [.Call (.Name (Str.ofString "range") p2) [x] [] q1] [] q2 ∧ es = [x] ∧ glB sc (Str.ofString "tuple") = true ∧ glB sc (Str.ofString "range") = true := by
    simp only [fTupRg] at hmt
    split at hmt
    · split at hmt
      · rename_i hc
        simp only [Bool.and_eq_true, decide_eq_true_eq] at hc
        obtain ⟨⟨⟨rfl, rfl⟩, a⟩, b⟩ := hc
        cases hmt
        exact ⟨_, _, _, _, _, rfl, rfl, a, b⟩
      · cases hmt
    · cases hmt
  obtain ⟨p1, p2, x, q1, q2, rfl, rfl, g1, g2⟩ := h'
  obtain ⟨ma, rfl, ha, o1⟩ := hp.one
  have l1 := gx.gl g1
  have l2 := gx.gl g2
  have hc := gx.calm
  obtain ⟨rfl, rfl, rfl, rfl, rfl, -, -, -, -, -⟩ := gx
  refine (pe_tupRg hc l1.1 h1 (prg_1 l2.1 h2 ha (odd_star o1))).w fun σ H Q h => ?_
  obtain ⟨W, ρ, S, s, PP⟩ := h
  have PP : PostO X.K W ((ma ρ S).bd fun x S1 => match x with
      | .int j => if -(2 ^ 60) ≤ j ∧ j ≤ 10000000 then .ok (.tup ((List.range j.toNat).map fun (k : Nat) => .int k)) S1 else .no
      | _ => .no) Q := PP
  refine T.bd s PP fun z S1 W1 v L1 s1 ra P1 => ?_
  cases z with
  | int j =>
    cases ra
    obtain ⟨⟨h1, h2⟩, P1⟩ := P1.ite
    exact ⟨j, rfl, ⟨by omega, by omega, by omega, by omega, by omega⟩, fun q hq => P1.tup s1.rep (rgV_rv j) hq⟩
  | _ => exact P1.no.elim
end VI

set_option maxRecDepth 100000
set_option maxHeartbeats 1000000
/-! VLA: a lambda: it is made, it is called. -/
namespace VI
open PySem PySem.Spec PyProof.Rows L2 RZ
/-- the object at f is o -/
def LamO (f : Addr) (o : Obj) : HO := .ext fun h => h.get? f = some o
abbrev lname (X : Cx) : Str := X.env.qual ++ "<lambda>"
theorem upd_comm {H : Hp} {a b : Addr} {u v : HO} (n : a ≠ b) : upd (upd H a u) b v = upd (upd H b v) a u := by
  funext d
  by_cases h1 : d = a
  · subst h1
    rw [upd_ne n, upd_same, upd_same]
  · by_cases h2 : d = b
    · subst h2
      rw [upd_same, upd_ne h1, upd_same]
    · rw [upd_ne h2, upd_ne h1, upd_ne h1, upd_ne h2]
/-- a lambda stands at f, its code object at c' -/
structure LamW (W : Wd) (f c' : Addr) (o : Obj) (q : Str) : Prop where
  hf : W.H f = some (LamO f o)
  sf : W.stb f
  hc : W.H c' = some (LamX.CodeO c' q)
  sc : W.stb c'
theorem LamW.mono {W W' : Wd} {f c' : Addr} {o : Obj} {q : Str} (L : Le W W') (h : LamW W f c' o q) : LamW W' f c' o q :=
  ⟨(L.stb _ _ h.hf h.sf).1, (L.stb _ _ h.hf h.sf).2, (L.stb _ _ h.hc h.sc).1, (L.stb _ _ h.hc h.sc).2⟩
abbrev lamObj (X : Cx) (params : Arguments) (body : Expr) (scope : Scope) (pm : Value) (c' : Addr) (ctv : Value) : Obj := PySem.W.kla_obj "<lambda>" (lname X) params body scope (cloFrom X.env.cells scope.names []) pm c' ctv
theorem pe_lambda {X : Cx} {x : Str} {c P : Addr} {params : Arguments} {body : Expr} {scope : Scope} {pos : Pos} (TB : LamX.TabB X.base X.mg c P) (hcode : X.env.code = .ref c) (hq : lname X = x ++ Str.ofString ".<locals>.<lambda>") (dfl : defaultsOf params X.env = ([], []))
    (fr : ∀ y ∈ scope.names, y.2 = .free → ∃ c, X.env.cells.lookup y.1 = some c) (isP : ∀ a, TabAt X.K x a → a = P) :
    PE X (.Lambda params body scope pos) (fun σ H Q => ∃ (W : Wd) (ρ : Ev) (S : Store) (i : Nat), Stt X.K W ρ S σ H ∧ S[i]? = some (AObj.tab x) ∧ ∀ W' f c' pm ctv, Le W W' → Stt X.K W' ρ S σ W'.H → LamW W' f c' (lamObj X params body scope pm c' ctv) (lname X) → Q (.ref f) W'.H) := by
  refine ⟨fun pins s σ H Q I h => ?_⟩
  obtain ⟨W, ρ, S, i, st, hi, k⟩ := h
  obtain rfl := st.hH
  have hn : i < W.n := by rw [← st.rep.len]; exact (List.getElem?_eq_some_iff.mp hi).1
  obtain ⟨ta, ps, eT, tri, cds⟩ := st.rep.obj i _ hi
  have eP := isP _ ta
  have nl : ¬ W.lkd (W.φ i) := st.rep.nlk hi rfl
  refine PySem.W.kla_eval dfl ?_
  have inB : s.heap.BuiltinsAt X.mg P := TB.bm.keeps I.bk
  have inP : s.heap.get? P = some { cls := .none, data := .fields ps } := by rw [← eP]; exact I.hok _ _ eT
  cases hc : codeAmong pos ps.toList with
  | none =>
    refine PySem.W.kla_makeFunction (mg := X.mg) (c := c) (P := P) (ps := ps) (closure_ok fr) I.ok.glob (I.mod.glob.keeps I.bk) hcode (TB.code.keeps I.bk) inP tri hc TB.gP inB fun c' ctv h' tk ext ge lt rcd tb => ?_
    obtain ⟨c2, oc, vs, t, e2, hoc, hd, hv⟩ := rcd
    cases e2
    have nC : W.H c' = none := I.hok.fresh ge
    have nPc : W.φ i ≠ c' := ne_of_none eT nC
    have I1 := LamX.inv_table (t' := tk) (more := #[rawInt pos.line, rawInt pos.col, .ref c']) (h' := h') (q := lname X) I eT (fun b o hb e => ext b o (by rw [← eP]; exact hb) e) (by rw [eP]; exact tb) ge ⟨oc, vs, t, hoc, hd, hv⟩
    rw [upd_comm nPc] at I1
    have R1 : Rep X.K (W.lay c' (LamX.CodeO c' (lname X))) S := st.rep.lay nC
    have L1 : Le W (W.lay c' (LamX.CodeO c' (lname X))) := Le.lay nC
    have nl1 : ¬ (W.lay c' (LamX.CodeO c' (lname X))).lkd ((W.lay c' (LamX.CodeO c' (lname X))).φ i) := nl
    have L2 := Le.wr R1 (o := .tbl (ps ++ #[rawInt pos.line, rawInt pos.col, .ref c'])) hn nl1
    have sC : (W.lay c' (LamX.CodeO c' (lname X))).stb c' := st.rep.layStb nC
    have eC : (W.lay c' (LamX.CodeO c' (lname X))).H c' = some (LamX.CodeO c' (lname X)) := upd_same
    have eL : (ps ++ #[rawInt pos.line, rawInt pos.col, .ref c']).toList = ps.toList ++ [rawInt pos.line, rawInt pos.col, .ref c'] := by simp
    have R2 := Rep.wr R1 (o := .tbl (ps ++ #[rawInt pos.line, rawInt pos.col, .ref c'])) (ob := AObj.tab x) hn nl1
      ⟨ta, ps ++ #[rawInt pos.line, rawInt pos.col, .ref c'], upd_same, by rw [eL]; exact PySem.TriplesOk_snoc _ _ _ _ tri, fun p' cv hcv => by
        rw [eL] at hcv
        rcases LamX.among_app _ tri hcv with z | z
        · obtain ⟨c0, e1, e2, e3⟩ := cds p' cv z
          obtain ⟨e4, e5⟩ := (L1.trans L2).stb _ _ e2 e3
          exact ⟨c0, e1, e4, e5⟩
        · obtain ⟨e4, e5⟩ := L2.stb _ _ eC sC
          exact ⟨c', z, e4.trans (congrArg (fun z => some (LamX.CodeO c' z)) hq), e5⟩⟩
    have eS : S.set i (AObj.tab x) = S := by
      obtain ⟨h1, h2⟩ := List.getElem?_eq_some_iff.mp hi
      rw [← h2]; exact List.set_getElem_self h1
    rw [eS] at R2
    have nF : ((W.lay c' (LamX.CodeO c' (lname X))).lay (W.φ i) (.tbl (ps ++ #[rawInt pos.line, rawInt pos.col, .ref c']))).H h'.objs.size = none := I1.hok.fresh (Nat.le_refl _)
    have I2 := I1.laid (a := h'.objs.size) (o := LamO h'.objs.size (lamObj X params body scope ((X.mg "__name__").getD .none) c' ctv)) (t' := tk) (h' := h'.push (lamObj X params body scope ((X.mg "__name__").getD .none) c' ctv))
      (fun b o e => Heap.get?_push_of_some _ e) (Nat.le_refl _) ⟨Heap.get?_push_size _ rfl, ⟨_, Heap.get?_push_size _ rfl⟩, fun h1 h2 e st => st _ e⟩
    have L3 := Le.lay (o := LamO h'.objs.size (lamObj X params body scope ((X.mg "__name__").getD .none) c' ctv)) nF
    have R3 := R2.lay (o := LamO h'.objs.size (lamObj X params body scope ((X.mg "__name__").getD .none) c' ctv)) nF
    have L := (L1.trans L2).trans L3
    obtain ⟨e4, e5⟩ := (L2.trans L3).stb _ _ eC sC
    exact ⟨.ref h'.objs.size, _, I2, rfl, k _ _ c' _ ctv L (st.next L R3) ⟨upd_same, R2.layStb nF, e4, e5⟩⟩
  | some cv =>
    obtain ⟨c', e, hco, sC⟩ := cds pos cv hc
    subst e
    rw [← hq] at hco
    refine PySem.W.kla_makeFunctionHit (mg := X.mg) (c := c) (P := P) (ps := ps) (closure_ok fr) I.ok.glob (I.mod.glob.keeps I.bk) hcode (TB.code.keeps I.bk) inP tri hc inB fun ctv h' tk hx hsz => ?_
    have I1 : Inv X pins σ W.H { s with heap := h', toks := tk } := I.kept fun b o e => hx b o e
    have nF : W.H h'.objs.size = none := I1.hok.fresh (Nat.le_refl _)
    have I2 := I1.laid (a := h'.objs.size) (o := LamO h'.objs.size (lamObj X params body scope ((X.mg "__name__").getD .none) c' ctv)) (t' := tk) (h' := h'.push (lamObj X params body scope ((X.mg "__name__").getD .none) c' ctv))
      (fun b o e => Heap.get?_push_of_some _ e) (Nat.le_refl _) ⟨Heap.get?_push_size _ rfl, ⟨_, Heap.get?_push_size _ rfl⟩, fun h1 h2 e st => st _ e⟩
    have L3 := Le.lay (o := LamO h'.objs.size (lamObj X params body scope ((X.mg "__name__").getD .none) c' ctv)) nF
    have R3 := st.rep.lay (o := LamO h'.objs.size (lamObj X params body scope ((X.mg "__name__").getD .none) c' ctv)) nF
    obtain ⟨e4, e5⟩ := L3.stb _ _ hco sC
    exact ⟨.ref h'.objs.size, _, I2, rfl, k _ _ c' _ ctv L3 (st.next L3 R3) ⟨upd_same, st.rep.layStb nF, e4, e5⟩⟩
/-- one parameter p, no other name of its own -/
structure LamS1 (sc scope : Scope) (N : List Str) (p : Str) : Prop where
  kind : scope.kind = .function
  co : scope.isCoroutine = false
  gen : scope.isGenerator = false
  par : scope.names.lookup p = some .local
  own : ∀ y ∈ scope.names, y.2 ≠ .cell ∧ (y.2 = .local → y.1 = p)
  free : ∀ y ∈ scope.names, y.2 = .free → sc.names.lookup y.1 = some .cell ∨ sc.names.lookup y.1 = some .free
  np : p ∉ N
/-- its context: entered at s -/
abbrev lamCxP (X : Cx) (p : Str) (A : Around) (s : Shared) (H : Hp) (scope : Scope) (f c' : Addr) : Cx := { LamX.lamCx X A X.stack s H (fun _ _ _ => False) scope f c' with N := X.N ++ [p] }
section
variable {X : Cx} {pins : List (Addr × Obj)} {σ : L2.St} {H : Hp} {s : Shared} {A : Around} {scope : Scope} {f c' : Addr} {p : Str}
theorem LamS1.has (L : LamS1 X.env.scope scope X.N p) (ok : X.Ok) : ∀ y ∈ scope.names, y.2 = .free → ∃ c, X.env.cells.lookup y.1 = some c := fun y hy e => by
  rcases L.free y hy e with k | k
  · exact ok.has _ (.inl k)
  · exact ok.has _ (.inr k)
theorem lam_enter {h₁ : Heap} {tk : Nat} {v : V} {u : Value} (I : Inv X pins σ H s) (L : LamS1 X.env.scope scope X.N p) (e0 : Env0 X.prog X.w X.K X.mg X.base A X.stack s H) (hd : A.handled = none) (r : RelV v u)
    (hns : h₁.Ns s.heap.objs.size fun y => [(p, u)].reverse.lookup y) (kp : ∀ b o, s.heap.get? b = some o → h₁.get? b = some o) :
    Inv (lamCxP X p A s H scope f c') [] (σ ++ [some v]) H { s with heap := h₁, toks := tk } := by
  have has := L.has I.ok
  have back : ∀ {y c}, (cloFrom X.env.cells scope.names []).lookup y = some c → X.env.cells.lookup y = some c := fun {y c} e => by
    rcases cloFrom_mem (PySem.mem_of_lookup e) with hm | ⟨h1, h2⟩
    · cases hm
    · obtain ⟨c1, hc⟩ := has _ h1 rfl
      have hc : X.env.cells.lookup y = some c1 := hc
      have e2 : c = c1 := by
        rw [h2, hc] <;> rfl
      rw [e2]
      exact hc
  have into : ∀ {y}, scope.names.lookup y = some .free → ∃ c, (cloFrom X.env.cells scope.names []).lookup y = some c := fun {y} hl => by
    have hy : (y, NameKind.free) ∈ scope.names := PySem.mem_of_lookup hl
    exact mem_lookup (cloFrom_has (cells := X.env.cells) (acc := []) hy)
  have cellK : ∀ {c : Addr} {v : Option Value}, s.heap.IsCell c v → h₁.IsCell c v := fun {c v} ⟨o, ho, hd⟩ => ⟨o, kp _ _ ho, hd⟩
  have noA : ∀ b : Addr, b ∉ (lamCxP X p A s H scope f c').ex := fun b z => absurd (show b ∈ ([] : List Addr) from z) (by simp)
  refine ⟨⟨e0.mod, L.kind, rfl, rfl, Nat.le_refl _, fun y z c e1 e2 => I.ok.inj y z c (back e1) (back e2), fun y hy => ?_, fun y c z _ => ?_, fun _ => hd, Around.frames_deeper e0.frames, .inr ⟨rfl, rfl⟩, fun b z => absurd z (noA b), e0.bs, e0.bsz, fun b _ _ => noA b,
      fun b z => absurd z (noA b), e0.funs, e0.frf⟩,
    rfl, e0.bare, Un.kept kp, ⟨_, hns, fun i y w e1 e2 e3 => ?_⟩, fun y c e => ?_, e0.hok.fresh (Nat.le_refl _), fun y c e => ?_, fun q hq => absurd (show q ∈ ([] : List (Addr × Obj)) ++ [] from hq) (by simp), e0.hok.kept kp, ?_⟩
  · have hy : scope.names.lookup y = some .cell ∨ scope.names.lookup y = some .free := hy
    rcases hy with hy | hy
    · exact absurd rfl (L.own _ (PySem.mem_of_lookup hy)).1
    · exact into hy
  · have z : false = true := z
    cases z
  · have e1 : (X.N ++ [p])[i]? = some y := e1
    by_cases hi : i < X.N.length
    · rw [List.getElem?_append_left hi] at e1
      rw [List.getElem?_append_left (by rw [I.len]; exact hi)] at e2
      have ny : y ≠ p := fun z => L.np (by rw [← z]; exact List.mem_of_getElem? e1)
      have e3 : Vis scope y := e3
      rcases e3 with k | k | k
      · exact absurd ((L.own _ (PySem.mem_of_lookup k)).2 rfl) ny
      · exact absurd rfl (L.own _ (PySem.mem_of_lookup k)).1
      · obtain ⟨m, hn, hl⟩ := I.loc
        have hvis : Vis X.env.scope y := (L.free _ (PySem.mem_of_lookup k) rfl).elim (fun k => .inr (.inl k)) (fun k => .inr (.inr k))
        obtain ⟨w', r, q⟩ := hl i y w e1 e2 hvis
        obtain ⟨c2, h2⟩ := into k
        refine ⟨w', r, .inr ⟨.inr k, c2, h2, ?_⟩⟩
        have c1 := back h2
        rcases q with ⟨k', _⟩ | ⟨_, c3, e', z⟩
        · have k' : X.env.scope.names.lookup y = some .local := k'
          rcases L.free _ (PySem.mem_of_lookup k) rfl with k2 | k2 <;> rw [show X.env.scope.names.lookup y = _ from k2] at k' <;> cases k'
        · rw [c1] at e'
          cases e'
          exact cellK z
    · have hi2 : i = X.N.length := by
        have := (List.getElem?_eq_some_iff.mp e1).1
        rw [List.length_append] at this
        simp at this
        omega
      subst hi2
      rw [List.getElem?_append_right (Nat.le_refl _), Nat.sub_self] at e1
      rw [List.getElem?_append_right (by rw [I.len]; exact Nat.le_refl _), I.len, Nat.sub_self] at e2
      cases e1
      cases e2
      refine ⟨u, r, .inl ⟨L.par, ?_⟩⟩
      show List.lookup p [(p, u)].reverse = some u
      simp [List.lookup]
  · obtain ⟨w', z⟩ := I.cell y c (back e)
    exact ⟨w', cellK z⟩
  · exact I.freeC y c (back e)
  · show (σ ++ [some v]).length = (X.N ++ [p]).length
    rw [List.length_append, List.length_append, I.len]; rfl
/-- it is called -/
theorem lam_call {params : Arguments} {body : Expr} {pm ctv : Value} {k : Nat} {v : V} {u : Value} {tb : TE} {Q : VK} (I : Inv X pins σ H s) (L : LamS1 X.env.scope scope X.N p) (e0 : Env0 X.prog X.w X.K X.mg X.base A X.stack s H) (hr : Room (k + 1) A)
    (ho : s.heap.get? f = some (lamObj X params body scope pm c' ctv)) (hc : H c' = some (LamX.CodeO c' (lname X)))
    (hbind : bindArgs (PySem.W.kla_fn "<lambda>" (lname X) params body scope (cloFrom X.env.cells scope.names []) pm (.ref c') ctv) ⟨[u], []⟩ = pure [(p, u)]) (r : RelV v u)
    (hbody : Room k (A.deeper (LamX.lamEnv X scope s.heap.objs.size f c')) → PE (lamCxP X p A s H scope f c') body tb) (ht : tb (σ ++ [some v]) H Q) :
    wpAny (model X.prog X.w) A (call (.ref f) [u]) (CE X.stack X.prog X.w H s Q) (fun _ _ => False) s := by
  obtain ⟨⟨oc, vs, t, hoc, hdc, hvc⟩, _, _⟩ := I.hok c' _ hc
  have rc : codeAny (model X.prog X.w) A (.call (.ref f) ⟨[u], []⟩) (CR (L2.CX X.prog X.w) X.stack X.prog X.w H s Q fun _ _ _ => False) s := by
    refine PySem.W.kla_callFunE hr.depth ho rfl L.co L.gen rfl ⟨c', oc, vs, t, rfl, hoc, hdc, hvc⟩ ?_
    rw [hbind]
    refine wpAny_pure (wpAny_newFunctionEnv (fun y hy => (L.own y hy).1) (fun y hy => ?_) (fun h₁ hns hsb => ⟨I.nolimit.fresh _ hsb, ?_⟩) L.kind)
    · simp at hy
      subst hy
      exact L.par
    show codeAny _ _ (.expr body (LamX.lamEnv X scope s.heap.objs.size f c')) _ _
    have kp : ∀ b o, s.heap.get? b = some o → h₁.get? b = some o := fun b o e => hsb.extBut b o (Nat.ne_of_lt (Heap.lt_size e)) (Heap.get?_push_of_some _ e)
    have J : Inv (lamCxP X p A s H scope f c') [] (σ ++ [some v]) H { s with heap := h₁, toks := s.toks + ([(p, u)] : List (Str × Value)).length } := lam_enter I L e0 hr.hd r hns kp
    refine PySem.W.kla_codeExpr (wpAny_mono ((hbody (hr.deeper _)).run [] _ _ H Q J ht) (fun v s' hq => ?_) fun e s' hq => hq)
    obtain ⟨w', H', J', rv, q⟩ := hq
    exact ⟨w', H', J'.os, J'.bare, J'.base, J'.hok, rv, q⟩
  refine wpAny_call (codeAny_mono rc fun r s' hq => ?_)
  cases r with
  | error e =>
    obtain ⟨_, _, _, _, _, _, _, _, _, _, _, _, z⟩ := hq
    exact z.elim
  | ok fl =>
    cases fl with
    | ret u => exact hq
    | next => exact False.elim hq
    | brk => exact False.elim hq
    | cont => exact False.elim hq
end
end VI

set_option maxRecDepth 100000
set_option maxHeartbeats 1000000
/-! VLB: sorted(range, key=f) where f's calls keep an invariant. -/
namespace VI
open PySem PySem.Spec PyProof.Rows PySem.W PySem.Calls
theorem each_of_at {α β : Type} {R : α → β → Prop} : ∀ {as : List α} {bs : List β}, as.length = bs.length → (∀ (i : Nat) a b, as[i]? = some a → bs[i]? = some b → R a b) → EachIs R as bs
  | [], [], _, _ => .nil
  | [], _ :: _, h, _ => by simp at h
  | _ :: _, [], h, _ => by simp at h
  | a :: as, b :: bs, h, f => .cons (f 0 a b rfl rfl) (each_of_at (by simpa using h) fun i x y h1 h2 => f (i + 1) x y (by simpa using h1) (by simpa using h2))
section
variable {prog : Program} {w : World} {A : Around} {E : Value → Shared → Prop} {a kS : Addr} {its : List Value} {zs : List Int} {ep : Nat} {P : PySem.Fin → Shared → Prop} {fv : Value} {J : Shared → Prop}
/-- the place a is the list under sort, kS holds the keys: what their states are -/
structure Keyed (J : Shared → Prop) (a kS : Addr) (ep : Nat) : Prop where
  ne : kS ≠ a
  mt : ∀ s, J s → s.heap.get? a = some (seqObj "list" #[] ep)
  put : ∀ s ka e v, J s → s.heap.get? kS = some (seqObj "list" ka e) → J { s with heap := s.heap.update kS (Obj.mapSeq (·.push v)) }
theorem keyed_rest {s0 : Shared} (D : Keyed J a kS ep) (h0 : J s0) (k0 : s0.heap.get? kS = some (seqObj "list" #[] 0)) (len : zs.length = its.length) (few : its.length ≤ sizeLine) (un : A.units + 1 < cLine)
    (turn : ∀ (i : Nat) v z, its[i]? = some v → zs[i]? = some z → ∀ s ka e, J s → s.heap.get? kS = some (seqObj "list" ka e) → wpAny (model prog w) A (call fv [v]) (fun u s' => J s' ∧ s'.heap.get? kS = some (seqObj "list" ka e) ∧ ∃ t, u = .int z t) (fun _ _ => False) s)
    (fin : ∀ s h' tk ka e out c, J s → s.heap.get? kS = some (seqObj "list" ka e) → (∀ b o, b ≠ a → b ≠ kS → s.heap.get? b = some o → h'.get? b = some o) → h'.get? a = some (seqObj "list" (List.toArray out) c) → KeyedOut false (zs.map PyData.int) its out →
      P (.done (.ret .none)) { s with heap := h', toks := tk }) :
    wpAny (model prog w) A (ksk_rest a fv false its.toArray ep (.ref kS)) P E s0 := by
  unfold ksk_rest
  refine wpAny_bind (wpAny_rule ?_)
  first
    | rw [List.forIn_toArray]
    | (rw [← Array.forIn_toList]; simp only [List.toList_toArray])
    | rw [← Array.forIn_toList]
  refine wpAny_bind (ksk_fold (fun i s' => J s' ∧ ∃ ka e, s'.heap.get? kS = some (seqObj "list" ka e) ∧ EachIs (fun v (z : Int) => ∃ t, v = Value.int z t) ka.toList (zs.take i)) its 0 s0
    ⟨h0, #[], 0, k0, by rw [List.take_zero]; exact EachIs.nil⟩ ?step ?done)
  case step =>
    rintro j x s' hx ⟨hJ, ka, e, nk, hk⟩
    simp only [Nat.zero_add] at hk ⊢
    have hj : j < its.length := (List.getElem?_eq_some_iff.mp hx).1
    obtain ⟨z, hz⟩ : ∃ z, zs[j]? = some z := ⟨_, List.getElem?_eq_getElem (by omega)⟩
    have kz : ka.size ≤ its.length := by
      have h1 := hk.length
      rw [Array.length_toList, List.length_take] at h1
      omega
    refine wpAny_bind (wpAny_attempt (wpAny_mono (turn j x z hx hz s' ka e hJ nk) (fun v s'' he => ?_) fun _ _ hF => hF.elim))
    obtain ⟨hJ2, nk2, t, rfl⟩ := he
    try dsimp only
    obtain ⟨c2, hc2⟩ : ∃ c2, (s''.heap.update kS (Obj.mapSeq (·.push (Value.int z t)))).get? kS = some (seqObj "list" (ka.push (Value.int z t)) c2) := ⟨_, get?_update_seq nk2 (·.push (Value.int z t))⟩
    have ek : zs.take (j + 1) = zs.take j ++ [z] := by rw [List.take_add_one, hz]; simp
    have ea : (ka.push (Value.int z t)).toList = ka.toList ++ [Value.int z t] := by simp
    refine wpAny_bind (listUpdate_at nk2 rfl ?_ (Nat.le_trans kz few) (Nat.le_trans (Nat.le_of_eq (Array.size_push ..)) (Nat.succ_le_succ (Nat.le_trans kz few))))
    refine wpAny_pure ⟨rfl, D.put _ _ _ _ hJ2 nk2, ka.push (Value.int z t), c2, hc2, ?_⟩
    rw [ea, ek]
    exact each_snoc (R := fun (v : Value) (z : Int) => ∃ t, v = Value.int z t) ⟨t, rfl⟩ hk
  case done =>
    rintro s' ⟨hJ, ka, e, nk, hk⟩
    have e3 : zs.take (0 + its.length) = zs := List.take_of_length_le (by omega)
    rw [e3] at hk
    have hk' : EachIs (fun v k => ∃ as, Reads s'.heap v k as) ka.toList (zs.map PyData.int) := by
      clear e3 len turn fin
      generalize ka.toList = l at hk
      induction hk with
      | nil => exact .nil
      | cons h _ ih => obtain ⟨t, rfl⟩ := h; exact .cons ⟨[], .int _ t⟩ ih
    have hsz : ka.size = its.length := by
      have h1 := hk.length
      rw [Array.length_toList] at h1
      omega
    have hal : AllAlike (zs.map PyData.int) := AllAlike.of fun _ _ => by simp [alike]
    have hsk : Sortable (zs.map PyData.int) := Sortable.others fun b => ⟨by simp, fun xs => by simp⟩
    obtain ⟨G, g1, g2⟩ := L2.restrict s'.heap fun b => !decide (b = kS)
    have G1 : ∀ b o, b ≠ kS → s'.heap.get? b = some o → G.get? b = some o := fun b o h e => by rw [g1 b (by simp [h])]; exact e
    have kp : KeepsBut a G s'.heap := fun b o _ e => by
      by_cases h : b = kS
      · subst h
        rw [g2 b (by simp)] at e; cases e
      · rw [g1 b (by simp [h])] at e; exact e
    try dsimp only
    refine wpAny_bind (listItems_at nk rfl ?_)
    exact keyH_end (κ := dataKind s'.heap (zs.map PyData.int)) (h₁ := G) kp (g2 kS (by simp)) nk (D.mt _ hJ) D.ne (SortsAt.data hk' hal hsk fun d hd => (by
      obtain ⟨z, _, rfl⟩ := List.mem_map.mp hd
      have : (PyData.int z).depth ≤ 1 := by simp [PyData.depth]
      omega)) hsz few fun h3 tk3 c k3 n3 => fin s' h3 tk3 ka e _ c hJ nk (fun b o h1 h2 e => k3 b o h1 (G1 b o h2 e)) n3 ⟨s'.heap, ka.toList, hal, rfl, hk'⟩
/-- .. the list emptied, its items held, the keys' list laid -/
theorem keyed_tree {s : Shared} {n : Nat} (ho : s.heap.get? a = some (seqObj "list" its.toArray n)) (len : zs.length = its.length) (few : its.length ≤ sizeLine) (un : A.units + 1 < cLine)
    (ent : ∀ s1 ep kS, s1.os = s.os → s1.gens = s.gens → s1.drawn = s.drawn → (∀ b o, b ≠ a → s.heap.get? b = some o → s1.heap.get? b = some o) → s1.heap.get? a = some (seqObj "list" #[] ep) → s1.heap.get? kS = some (seqObj "list" #[] 0) → s.heap.objs.size < kS →
      ∃ J, Keyed J a kS ep ∧ J s1 ∧
        (∀ (i : Nat) v z, its[i]? = some v → zs[i]? = some z → ∀ s ka e, J s → s.heap.get? kS = some (seqObj "list" ka e) → wpAny (model prog w) A (call fv [v]) (fun u s' => J s' ∧ s'.heap.get? kS = some (seqObj "list" ka e) ∧ ∃ t, u = .int z t) (fun _ _ => False) s) ∧
        (∀ s h' tk ka e out c, J s → s.heap.get? kS = some (seqObj "list" ka e) → (∀ b o, b ≠ a → b ≠ kS → s.heap.get? b = some o → h'.get? b = some o) → h'.get? a = some (seqObj "list" (List.toArray out) c) → KeyedOut false (zs.map PyData.int) its out →
          P (.done (.ret .none)) { s with heap := h', toks := tk })) :
    wpAny (model prog w) A (ksk_tree a fv false) P E s := by
  have ha : a < s.heap.objs.size := Heap.lt_size ho
  obtain ⟨ep, ho1⟩ : ∃ ep, (s.heap.update a (Obj.mapSeq fun _ => (#[] : Array Value))).get? a = some (seqObj "list" #[] ep) := ⟨_, get?_update_seq ho fun _ => #[]⟩
  have size1 : ((s.heap.update a (Obj.mapSeq fun _ => (#[] : Array Value))).push (seqObj "tuple" its.toArray 0)).objs.size = s.heap.objs.size + 1 := by rw [size_push', Heap.size_update]
  unfold ksk_tree
  refine wpAny_bind (listItems_at ho rfl ?_)
  refine wpAny_bind (listUpdate_at ho rfl ?_ (by rw [List.size_toArray]; exact few) (Nat.zero_le _))
  refine wpAny_bind (seqEpoch_at ho1 rfl ?_)
  refine wpAny_bind (wpAny_newTuple ?_ (by show its.length ≤ _; exact few))
  refine wpAny_bind (wpAny_newList ?_ (Nat.zero_le _))
  refine wpAny_holding ?_
  obtain ⟨J, D, h0, turn, fin⟩ := ent { s with heap := ((s.heap.update a (Obj.mapSeq fun _ => (#[] : Array Value))).push (seqObj "tuple" its.toArray 0)).push (seqObj "list" #[] 0) } ep
    ((s.heap.update a (Obj.mapSeq fun _ => (#[] : Array Value))).push (seqObj "tuple" its.toArray 0)).objs.size rfl rfl rfl (fun b o hb q => sortingHeap_old (vs := its) hb q) (Heap.get?_push_of_some _ (Heap.get?_push_of_some _ ho1)) (Heap.get?_push_size _ rfl) (by rw [size1]; omega)
  exact keyed_rest D h0 (Heap.get?_push_size _ rfl) len few un turn fin
/-- sorted(range(n), key=f) -/
theorem sorted_range {s : Shared} {r q : Addr} {n : Nat} {t u v : Tok} {Q : Value → Shared → Prop} (hh : A.handled = none) (hr : IsRange s.heap r 0 n 1 t u v) (hn : n ≤ 1000000) (len : zs.length = n) (un : A.units + 10 < cLine)
    (ent : ∀ h' : Heap, (∀ b o, s.heap.get? b = some o → h'.get? b = some o) → ∀ s1 a ep kS, s1.os = s.os → s1.gens = s.gens → s1.drawn = s.drawn → (∀ b o, h'.get? b = some o → s1.heap.get? b = some o) → s1.heap.get? a = some (seqObj "list" #[] ep) → s1.heap.get? kS = some (seqObj "list" #[] 0) → h'.objs.size ≤ a → a < kS →
      ∃ J, Keyed J a kS ep ∧ J s1 ∧
        (∀ (i : Nat) t z, i < n → zs[i]? = some z → ∀ s ka e, J s → s.heap.get? kS = some (seqObj "list" ka e) → wpAny (model prog w) A.in1.in1 (call (.ref q) [.int i t]) (fun u s' => J s' ∧ s'.heap.get? kS = some (seqObj "list" ka e) ∧ ∃ t, u = .int z t) (fun _ _ => False) s) ∧
        (∀ s h' tk out c, J s → (∀ b o, b ≠ a → b ≠ kS → s.heap.get? b = some o → h'.get? b = some o) → h'.get? a = some (seqObj "list" (List.toArray out) c) → EachIs (fun v (i : Nat) => ∃ t, v = Value.int i t) out ((List.range n).mergeSort (dataLe false fun i => .int (zs.getD i 0))) →
          Q (.ref a) { s with heap := h', toks := tk })) :
    wpAny (model prog w) A (call (.builtin "sorted") [.ref r] [(Str.ofString "key", .ref q)]) Q E s := by
  refine call_function_entry_kw kind_sorted plain_sorted entry_sorted (ksk_s1 _ _) ?_
  unfold Builtin.«sorted»
  refine wpAny_bind (m := checkCount "sorted" 1 1 _) (wpAny_pure ?_)
  have h60 : Builtin.Range.small 0 n 1 = true := small_one (by decide) (by decide) (by omega) (by omega)
  refine wpAny_bind (L2.collect_range (A := A.in1) hh hr h60 (n := n) (by have := rangeSize_nat 0 (n : Int); simpa using this) (by omega) fun h' tk acc hk hi => ?_)
  have accl : acc.toList.length = n := by rw [Array.length_toList]; exact hi.1
  have few : acc.toList.length ≤ sizeLine := by rw [accl, sizeLine_eq]; omega
  refine wpAny_bind (wpAny_newList ?_ few)
  have hold : (h'.push (seqObj "list" acc.toList.toArray 0)).get? h'.objs.size = some (seqObj "list" acc.toList.toArray 0) := Heap.get?_push_size _ rfl
  refine wpAny_bind (wpAny_holding (wpAny_call_entry_kw slot_list_sort ⟨_, hold, rfl⟩ entry_list_sort ?body (ksk_l1 _ _)))
  case body =>
    show wpAny (model prog w) A.in1.in1 (Builtin.«list.sort» ⟨[.ref h'.objs.size], [(Str.ofString "key", .ref q)]⟩) _ _ _
    rw [ksk_t1]
    refine keyed_tree (zs := zs) (its := acc.toList) (s := { s with heap := h'.push (seqObj "list" acc.toList.toArray 0), toks := tk }) hold (by rw [len, accl]) few (by show A.units + 1 + 1 + 1 < cLine; omega) fun s1 ep kS o1 o2 o3 kp m1 m2 lt => ?_
    obtain ⟨J, D, h0, turn, fin⟩ := ent h' hk s1 h'.objs.size ep kS o1 o2 o3 (fun b o e => kp b o (Nat.ne_of_lt (Heap.lt_size e)) (Heap.get?_push_of_some _ e)) m1 m2 (Nat.le_refl _) (by
      have h1 : h'.objs.size < (h'.push (seqObj "list" acc.toList.toArray 0)).objs.size := by rw [size_push']; omega
      exact Nat.lt_trans h1 lt)
    refine ⟨J, D, h0, fun i v z e1 e2 => ?_, fun s2 h2 tk2 ka e out c hJ nk kp2 ha ko => ?_⟩
    · obtain ⟨t, rfl⟩ : ∃ t, v = .int (0 + i * 1) t := hi.2 i v (by rw [← e1, Array.getElem?_toList])
      have hin : i < n := by
        have := (List.getElem?_eq_some_iff.mp e1).1
        omega
      have := turn i t z hin e2
      simpa using this
    · refine ⟨_, rfl, wpAny_pure ⟨_, rfl, fin s2 h2 tk2 out c hJ kp2 ha ?_⟩⟩
      have ez : (List.range n).map (fun i => PyData.int (zs.getD i 0)) = zs.map PyData.int := by
        refine List.ext_getElem (by simp [len]) fun i h1 h2 => ?_
        simp at h1 h2
        simp [List.getD_eq_getElem?_getD, h2]
      rw [← ez] at ko
      refine keyedOut_each _ ko (R := fun v (i : Nat) => ∃ t, v = Value.int i t) (bs := List.range n) ?_
      refine each_of_at (by rw [accl, List.length_range]) fun i v j e1 e2 => ?_
      obtain ⟨t, rfl⟩ : ∃ t, v = .int (0 + i * 1) t := hi.2 i v (by rw [← e1, Array.getElem?_toList])
      have : j = i := by
        have := (List.getElem?_eq_some_iff.mp e2)
        obtain ⟨h1, h2⟩ := this
        rw [← h2, List.getElem_range]
      subst this
      exact ⟨t, by simp⟩
end
end VI

set_option maxRecDepth 100000
set_option maxHeartbeats 1000000
/-! VLC: sorted(range(n), key=lambda p: ..) as an expression. -/
namespace VI
open PySem PySem.Spec PyProof.Rows L2 RZ
section
variable {X : Cx} {pins : List (Addr × Obj)} {σ : L2.St} {H : Hp} {s : Shared}
/-- a place that is ours alone -/
structure Own (X : Cx) (pins : List (Addr × Obj)) (b : Addr) : Prop where
  hch : (b ∈ X.ex ∨ X.s_0.heap.objs.size ≤ b) ∧ b ≠ X.env.locals ∧ (∀ x c, X.env.cells.lookup x = some c → c ≠ b) ∧ ∀ p ∈ X.pn ++ pins, p.1 ≠ b
  fs : b ∉ X.fs
theorem own_new {b : Addr} (I : Inv X pins σ H s) (h : s.heap.objs.size ≤ b) : Own X pins b := by
  have far : ∀ c o, s.heap.get? c = some o → c ≠ b := fun c o e => Nat.ne_of_lt (Nat.lt_of_lt_of_le (Heap.lt_size e) h)
  refine ⟨⟨.inr (Nat.le_trans I.sz h), (Nat.ne_of_lt (Nat.lt_of_lt_of_le I.lt h)).symm, fun x c e => ?_, fun p hp => far _ _ (I.pin p hp).1⟩, I.nofs h⟩
  obtain ⟨v, o, ho, _⟩ := I.cell x c e
  exact far _ _ ho
theorem inv_hid {ch : List Addr} {h' : Heap} {t' : Nat} (I : Inv X pins σ H s) (ow : ∀ b ∈ ch, Own X pins b ∧ H b = none) (k : ∀ b o, b ∉ ch → s.heap.get? b = some o → h'.get? b = some o) : Inv X pins σ H { s with heap := h', toks := t' } := by
  refine I.step (g' := s.gens) (d' := s.drawn) (ch := ch) (fun b hb => (ow b hb).1.hch) (fun b o _ _ hb e _ => k b o hb e) (fun b o _ _ hb e _ => ⟨o.slots, k b o hb e⟩) (fun b o _ _ n => n) (fun b o hb e => ⟨o, k b o hb e⟩) (fun b xs e => e) (fun b o u e => e) (fun b ps e => ⟨#[], by simpa using e⟩) (fun m hn => ?_) (fun b u e => ?_) I.bare
  · obtain ⟨ob, es, ep, ho, r⟩ := hn
    exact ⟨ob, es, ep, k _ ob (fun z => (ow _ z).1.hch.2.1 rfl) ho, r⟩
  · refine (I.hok b u e).stay (fun d v hd q => k d v (fun z => ?_) q) (fun d q => q) fun d xs q => q
    have hz := (ow d z).2
    rcases hd with rfl | hd
    · rw [hz] at e; cases e
    · rw [hz] at hd; cases hd
theorem inv_tell {a : Addr} {o : HO} (I : Inv X pins σ H s) (ow : Own X pins a) (hn : H a = none) (new : ObjOk X.prog X.w (upd H a o) s.heap a o) : Inv X pins σ (upd H a o) s := by
  have at_ : ∀ b u, H b = some u → upd H a o b = some u := fun b u e => by rw [upd_ne (ne_of_none e hn)]; exact e
  refine I.step (h' := s.heap) (t' := s.toks) (g' := s.gens) (d' := s.drawn) (ch := [a]) (fun b hb => by rw [List.mem_singleton.mp hb]; exact ow.hch) (fun b o _ _ _ e _ => e) (fun b o _ _ _ e _ => ⟨o.slots, e⟩) (fun b o hb _ n => by rw [upd_ne (fun z => hb (by rw [z]; simp))]; exact n) (fun b o _ e => ⟨o, e⟩)
    (fun b xs e => at_ _ _ e) (fun b o u e => at_ _ _ e) (fun b ps e => ⟨#[], by simpa using at_ _ _ e⟩) (fun m hn => hn) (fun b u e => ?_) I.bare
  by_cases hb : b = a
  · subst hb
    rw [upd_same] at e
    cases e
    exact new
  · rw [upd_ne hb] at e
    exact (I.hok b u e).stay (fun d v _ q => q) (fun d q => at_ _ _ q) fun d xs q => at_ _ _ q
theorem cr_range1 : CallR X (.type "range") (fun vs H Q => ∃ n, vs = [V.int n] ∧ ∀ p, H p = none → Q (.ref p) (upd H p (.rng 0 n))) := by
  intro pins s σ H vs us Q I r h
  obtain ⟨n, rfl, q⟩ := h
  obtain ⟨u1, rfl, ri⟩ := vals1 r
  obtain ⟨t, rfl⟩ := ri
  refine call_range_1 ⟨.ref s.heap.objs.size, upd H s.heap.objs.size (.rng 0 n), I.laid (t' := s.toks + 2) (fun b o e => Heap.get?_push_of_some _ e) (Nat.le_refl _) ?_, rfl, q _ (I.hok.fresh (Nat.le_refl _))⟩
  exact ⟨_, _, _, Heap.get?_push_size _ rfl⟩
end
/-- the numbers below zs.length, by their keys zs -/
def sortBy (zs : List Int) : List AV := ((List.range zs.length).mergeSort (PySem.W.dataLe false fun i => .int (zs.getD i 0))).map fun i => .int (i : Nat)
open Classical in
noncomputable def keysD (mb : Dn) (ρ : Ev) (S : Store) (n : Nat) : Option (List Int) :=
  if h : ∃ zs : List Int, zs.length = n ∧ ∀ (i : Nat) z, zs[i]? = some z → mb (ρ ++ [some (.int i)]) S = .ok (.int z) S then some (Classical.choose h) else none
theorem keysD_eq {mb : Dn} {ρ : Ev} {S : Store} {n : Nat} {zs : List Int} (h : keysD mb ρ S n = some zs) : zs.length = n ∧ ∀ (i : Nat) z, zs[i]? = some z → mb (ρ ++ [some (.int i)]) S = .ok (.int z) S := by
  unfold keysD at h
  split at h
  · rename_i q
    cases h
    exact Classical.choose_spec q
  · cases h
theorem keysD_of {mb : Dn} {ρ : Ev} {S : Store} {zs : List Int} (h : ∀ (i : Nat) z, zs[i]? = some z → mb (ρ ++ [some (.int i)]) S = .ok (.int z) S) : keysD mb ρ S zs.length = some zs := by
  have q : ∃ ys : List Int, ys.length = zs.length ∧ ∀ (i : Nat) z, ys[i]? = some z → mb (ρ ++ [some (.int i)]) S = .ok (.int z) S := ⟨zs, rfl, h⟩
  obtain ⟨h1, h2⟩ := Classical.choose_spec q
  have e : Classical.choose q = zs := by
    refine List.ext_getElem h1 fun i a b => ?_
    have e1 := h2 i _ (List.getElem?_eq_getElem a)
    have e2 := h i _ (List.getElem?_eq_getElem b)
    rw [e1] at e2
    injection e2 with e3
    injection e3
  unfold keysD
  rw [dif_pos q, e]
def hasTab (x : Str) (S : Store) : Prop := ∃ i : Nat, S[i]? = some (AObj.tab x)
noncomputable instance (x : Str) (S : Store) : Decidable (hasTab x S) := Classical.propDecidable _
noncomputable def sortTail (x : Str) (mb : Dn) (ρ : Ev) (y : AV) (S1 : Store) : Out AV := match y with
  | .int n => if hasTab x S1 ∧ 0 ≤ n ∧ n ≤ 1000000 then optD (keysD mb ρ S1 n.toNat) fun zs => .ok (.lst (sortBy zs)) S1 else .no
  | _ => .no
noncomputable def sortLamD (x : Str) (mn mb : Dn) : Dn := fun ρ S => (mn ρ S).bd fun y S1 => sortTail x mb ρ y S1
theorem ER.app {K : PySem.W.Frag} {W : Wd} {ρ : Ev} {σ : L2.St} (h : ER K W ρ σ) {a : AV} {x : V} (r : RV K W a x) : ER K W (ρ ++ [some a]) (σ ++ [some x]) := by
  refine ⟨by simp [h.len], fun i b e => ?_⟩
  by_cases hi : i < ρ.length
  · rw [List.getElem?_append_left hi] at e
    obtain ⟨y, h1, h2⟩ := h.at_ i b e
    exact ⟨y, by rw [List.getElem?_append_left (by rw [← h.len]; exact hi)]; exact h1, h2⟩
  · have : i = ρ.length := by
      have := (List.getElem?_eq_some_iff.mp e).1
      simp at this; omega
    subst this
    rw [List.getElem?_append_right (Nat.le_refl _), Nat.sub_self] at e
    cases e
    exact ⟨x, by rw [h.len, List.getElem?_append_right (Nat.le_refl _), Nat.sub_self]; rfl, r⟩
section
variable {X : Cx}
theorem pe_sortlam {x : Str} {c P : Addr} {p : Str} {params : Arguments} {body e : Expr} {scope : Scope} {p1 p2 p3 lpos kpos pos : Pos} {mn mb : Dn} {k : Nat} (hcalm : X.calm = true) (TB : LamX.TabB X.base X.mg c P) (hcode : X.env.code = .ref c) (hq : lname X = x ++ Str.ofString ".<locals>.<lambda>")
    (dfl : defaultsOf params X.env = ([], [])) (isP : ∀ a, TabAt X.K x a → a = P) (L : LamS1 X.env.scope scope X.N p) (hr : Room (k + 3) X.A)
    (hbind : ∀ (cl : List (Str × Addr)) pm c' ctv u, bindArgs (PySem.W.kla_fn "<lambda>" (lname X) params body scope cl pm (.ref c') ctv) ⟨[u], []⟩ = pure [(p, u)])
    (hbody : ∀ A s H f c', Room k (A.deeper (LamX.lamEnv X scope s.heap.objs.size f c')) → PE (lamCxP X p A s H scope f c') body (T X.K mb))
    (g1 : Gl X (Str.ofString "sorted")) (m1 : X.mg (Str.ofString "sorted") = none) (g2 : Gl X (Str.ofString "range")) (m2 : X.mg (Str.ofString "range") = none) (hn : PE X e (T X.K mn)) (oe : odd e = false) :
    PE X (.Call (.Name (Str.ofString "sorted") p1) [.Call (.Name (Str.ofString "range") p2) [e] [] p3] [⟨some (Str.ofString "key"), .Lambda params body scope lpos, kpos⟩] pos) (T X.K (sortLamD x mn mb)) := by
  refine ⟨fun pins s σ H Q I h => ?_⟩
  obtain ⟨W, ρ, S, st, PO⟩ := h
  have PO : PostO X.K W ((mn ρ S).bd fun y S1 => sortTail x mb ρ y S1) Q := PO
  have hrg : PE X (.Call (.Name (Str.ofString "range") p2) [e] [] p3) _ := pe_callTy cr_range1 g2 m2 (by decide +kernel) (pa_cons hn pa_nil (odd_star oe)) (by decide +kernel) (by decide +kernel) (odd_star oe) (backTo_any rfl)
  have hlm := pe_lambda (pos := lpos) (body := body) TB hcode hq dfl (L.has I.ok) isP
  refine wpAny_Call_Name_kw (ld_blt I g1 m1 (by decide +kernel : bootBuiltins (Str.ofString "sorted") = some (.builtin "sorted")) ?_ (by decide +kernel) (by decide +kernel))
  refine PyProof.Rows.callWith_kw (thn ((pa_cons hrg pa_nil rfl).run pos pins s σ H (fun vs H1 => ∃ W1 S1 r n, vs = [.ref r] ∧ W1.H r = some (.rng 0 n) ∧ W1.stb r ∧ Stt X.K W1 ρ S1 σ H1 ∧ PostO X.K W1 (sortTail x mb ρ (.int n) S1) Q) I ?args)
    fun us s1 ⟨vs, H1, I1, r1, W1, S1, r, n, e1, e2, e3, st1, P1⟩ => ?_)
  case args =>
    refine T.bd st PO fun z S1 W1 v L1 s1 ra P1 => ?_
    cases z with
    | int n =>
      cases ra
      refine ⟨n, rfl, fun q hq => ?_⟩
      exact ⟨W1.lay q (.rng 0 n), S1, q, n, rfl, upd_same, s1.rep.layStb hq, s1.next (Le.lay hq) (s1.rep.lay hq), P1.mono (Le.lay hq)⟩
    | _ => exact P1.no.elim
  subst e1
  obtain rfl := st1.hH
  unfold sortTail at P1
  obtain ⟨⟨⟨ti, hti⟩, n0, n1⟩, P2⟩ := P1.ite
  obtain ⟨zs, hz, P3⟩ := P2.opt
  obtain ⟨z1, z2⟩ := keysD_eq hz
  obtain rfl := Vals.ref1 r1
  refine thn ((pk_cons (kpos := kpos) (nm := some (Str.ofString "key")) hlm pk_nil).run pos pins s1 σ W1.H (fun vs H2 => ∃ W2 f c' pm ctv, vs = [.ref f] ∧ W2.H = H2 ∧ Le W1 W2 ∧ Stt X.K W2 ρ S1 σ W2.H ∧ LamW W2 f c' (lamObj X params body scope pm c' ctv) (lname X)) I1
    ⟨W1, ρ, S1, ti, st1, hti, fun W' f c' pm ctv L' s' l' => ⟨W', f, c', pm, ctv, rfl, rfl, L', s', l'⟩⟩) fun ws s2 ⟨vs, H2, I2, r2, W2, f, c', pm, ctv, e4, e5, L2, st2, lw⟩ => ?_
  subst e4 e5
  obtain rfl := Vals.ref1 r2
  have P4 := P3.mono L2
  obtain ⟨t, u, v, hir⟩ : ∃ t u v, s2.heap.get? r = some { cls := .type "range", data := .fields #[.int 0 t, .int n u, .int 1 v] } := I2.hok r _ (L2.stb _ _ e2 e3).1
  have en : ((n.toNat : Nat) : Int) = n := Int.toNat_of_nonneg n0
  have z1' : zs.length = n.toNat := z1
  have un := hr.un
  refine sorted_range (zs := zs) (n := n.toNat) (I2.ok.hd hcalm) (by rw [en]; exact hir) (by omega) z1' (by omega) fun h' hk s3 a ep kS o1 o2 o3 kp q1 q2 ha lt => ?_
  have I2' : Inv X pins σ W2.H { s2 with heap := h', toks := s2.toks } := I2.kept hk
  have fa : W2.H a = none := I2'.hok.fresh ha
  have fk : W2.H kS = none := I2'.hok.fresh (Nat.le_of_lt (Nat.lt_of_le_of_lt ha lt))
  have oa : Own X pins a := own_new I2' ha
  have ok : Own X pins kS := own_new I2' (Nat.le_of_lt (Nat.lt_of_le_of_lt ha lt))
  obtain ⟨g3, gg3, d3, t3, os3⟩ := s3
  obtain rfl : os3 = s2.os := o1
  obtain rfl : gg3 = s2.gens := o2
  obtain rfl : d3 = s2.drawn := o3
  have I3 : Inv X pins σ W2.H { s2 with heap := g3, toks := t3 } := I2'.kept (t' := t3) kp
  refine ⟨fun s' => ∃ Wj, Le W2 Wj ∧ Rep X.K Wj S1 ∧ Inv X pins σ Wj.H s' ∧ Wj.H a = none ∧ Wj.H kS = none ∧ s'.heap.get? a = some (seqObj "list" #[] ep), ⟨Ne.symm (Nat.ne_of_lt lt), fun s' h => h.choose_spec.2.2.2.2.2, fun s' ka e v h hk => ?_⟩, ⟨W2, Le.refl _, st2.rep, I3, fa, fk, q1⟩, fun i t z hi hz s' ka e h hk => ?_, fun s' h2 tk out c h kp2 ha2 ko => ?_⟩
  · obtain ⟨Wj, Lj, Rj, Ij, ja, jk, jm⟩ := h
    have sb := Heap.SameBut.update s'.heap kS (Obj.mapSeq (·.push v))
    refine ⟨Wj, Lj, Rj, inv_hid (t' := s'.toks) (ch := [kS]) Ij (fun b hb => by rw [List.mem_singleton.mp hb]; exact ⟨ok, jk⟩) (fun b o hb e => (sb.2 b (fun z => hb (by rw [z]; simp))).trans e), ja, jk, (sb.2 a (Nat.ne_of_lt lt)).trans jm⟩
  · obtain ⟨Wj, Lj, Rj, Ij, ja, jk, jm⟩ := h
    have lj := lw.mono Lj
    obtain ⟨hf1, _, _⟩ := Ij.hok f _ lj.hf
    have stj : Stt X.K Wj ρ S1 σ Wj.H := st2.next Lj Rj
    have er : Stt X.K Wj (ρ ++ [some (.int i)]) S1 (σ ++ [some (.int i)]) Wj.H := ⟨rfl, Rj, stj.er.app (.int i)⟩
    have hcall := lam_call (Q := fun x H' => ∃ W', W'.H = H' ∧ Le Wj W' ∧ Rep X.K W' S1 ∧ x = .int z) (k := k) (v := .int i) (u := .int i t) (tb := T X.K mb) Ij L Ij.env0.in1.in1 (Room.in1 (Room.in1 hr)) hf1 lj.hc (hbind _ _ _ _ _) ⟨t, rfl⟩ (hbody _ _ _ _ _)
      ⟨Wj, _, S1, er, .int z, S1, z2 i z hz, fun W' y L' R' ry => ⟨W', rfl, L', R', by cases ry; rfl⟩⟩
    refine wpAny_mono hcall (fun u s'' he => ?_) fun _ _ hF => hF
    obtain ⟨y, H', os, bare, unn, hok, ry, W', eW, LW, RW, ey⟩ := he
    subst eW ey
    have nf : ∀ b, Own X pins b → b ∉ frs X.stack := fun b hb q => (List.mem_cons.mp (Ij.stkSub b q)).elim hb.hch.2.1 hb.fs
    have J := Ij.call' (ch := []) os unn hok bare (fun b z => absurd z (by simp))
    obtain ⟨t', rfl⟩ := ry
    exact ⟨⟨W', Lj.trans LW, RW, J, unn.free a _ jm ja (by simp), unn.free kS _ hk jk (by simp), unn.keep a _ jm ja (nf a oa) (by simp)⟩, unn.keep kS _ hk jk (nf kS ok) (by simp), t', rfl⟩
  · obtain ⟨Wj, Lj, Rj, Ij, ja, jk, jm⟩ := h
    have J : Inv X pins σ Wj.H { s' with heap := h2, toks := tk } := inv_hid (ch := [a, kS]) Ij (fun b hb => by
      rcases List.mem_cons.mp hb with rfl | hb
      · exact ⟨oa, ja⟩
      · rw [List.mem_singleton.mp hb]; exact ⟨ok, jk⟩) fun b o hb e => kp2 b o (fun z => hb (by rw [z]; simp)) (fun z => hb (by rw [z]; simp)) e
    have lenO : out.length = n.toNat := by
      have := ko.length
      simpa using this
    have vo : Vals (((List.range zs.length).mergeSort (PySem.W.dataLe false fun i => .int (zs.getD i 0))).map fun i => V.int (i : Nat)) out := by
      rw [z1']
      clear lenO ha2
      generalize (List.range n.toNat).mergeSort _ = l at ko
      induction ko with
      | nil => exact .nil
      | cons h _ ih => exact .cons h ih
    have J2 := inv_tell (o := .lst (((List.range zs.length).mergeSort (PySem.W.dataLe false fun i => .int (zs.getD i 0))).map fun i => V.int (i : Nat))) J oa ja ⟨by
      rw [vo.length, lenO, sizeLine_eq]; omega, out, c, vo, ha2⟩
    refine ⟨.ref a, _, J2, rfl, ?_⟩
    have P5 := P4.mono Lj
    have := PostO.mk (m := false) (l := sortBy zs) (p := a) P5 Rj (xs := ((List.range zs.length).mergeSort (PySem.W.dataLe false fun i => .int (zs.getD i 0))).map fun i => V.int (i : Nat)) ?_ ja
    · exact this
    · unfold sortBy
      generalize (List.range zs.length).mergeSort _ = l
      induction l with
      | nil => exact .nil
      | cons i l ih => exact .cons (.int _) ih
end
end VI

set_option maxRecDepth 100000
set_option maxHeartbeats 1000000
/-! VLD: the def whose body is tuple(sorted(range(n), key=lambda p: ..)). -/
namespace VI
open PySem PySem.Spec PyProof.Rows L2 RZ
theorem TabAt.one {K : PySem.W.Frag} {x : Str} {a b : Addr} (h : TabAt K x a) (k : TabAt K x b) : b = a := by
  obtain ⟨f, c, o, oc, fd, vs, h1, h2, h3, h4, h5, h6, h7⟩ := h
  obtain ⟨f', c', o', oc', fd', vs', k1, k2, k3, k4, k5, k6, k7⟩ := k
  rw [h1] at k1; cases k1
  rw [h2] at k2; cases k2
  rw [h3] at k3; cases k3
  rw [h4] at k4; cases k4
  rw [h5] at k5; cases k5
  rw [h6] at k6; cases k6
  rw [h7] at k7; cases k7
  rfl
noncomputable def sortFn (x : Str) (np : Nat) (mn mb : Dn) : Fn := fun as S => if as.length = np ∧ hasTab x S then (sortLamD x mn mb (as.map some) S).bd fun l S1 => match l with
  | .lst l => .ok (.tup l) S1
  | _ => .no
  else .no
theorem sortFn_ar {x : Str} {np : Nat} {mn mb : Dn} {as : List AV} {S S' : Store} {r : AV} (h : sortFn x np mn mb as S = .ok r S') : as.length = np := by
  unfold sortFn at h
  split at h
  · rename_i q
    exact q.1
  · cases h
theorem sortFn_tab {x : Str} {np : Nat} {mn mb : Dn} {as : List AV} {S S' : Store} {r : AV} (h : sortFn x np mn mb as S = .ok r S') : hasTab x S := by
  unfold sortFn at h
  split at h
  · rename_i q
    exact q.2
  · cases h
section
variable {P : Program} {w : World} {K : PySem.W.Frag} {mg : Str → Option Value} {base : Heap} {k : Nat}
theorem fx_lam {x : Str} {st : Stmt} {f : Addr} {fd : FuncData} {ps : List Str} {p : Str} {params : Arguments} {body e : Expr} {scope : Scope} {p1 p2 p3 p4 p5 p6 lpos kpos pos : Pos} {en eb : E} (F : FunA K x x st f fd) (hm : mg x = some (.ref f)) (ns : PySem.W.nsIn K mainGlobals x = some (some (.ref f)))
    (hb : Binds K fd ps []) (Sc : FnScope ps ps (defScope st))
    (hB : defBody st = [.Return (some (.Call (.Name (Str.ofString "tuple") p4) [.Call (.Name (Str.ofString "sorted") p1) [.Call (.Name (Str.ofString "range") p2) [e] [] p3] [⟨some (Str.ofString "key"), .Lambda params body scope lpos, kpos⟩] pos] [] p5)) p6])
    (tb : ∀ c T oc vs, fd.code = .ref c → K.lookup c = some oc → oc.data = .fields vs → vs[11]? = some (.ref T) → LamX.TabB base mg c T)
    (hq : (x ++ ".<locals>.") ++ "<lambda>" = x ++ Str.ofString ".<locals>.<lambda>") (dfl : ∀ env, defaultsOf params env = ([], [])) (L : LamS1 (defScope st) scope ps p) (nd : (ps ++ [p]).Nodup)
    (hbind : ∀ (q : Str) (cl : List (Str × Addr)) pm c' ctv u, bindArgs (PySem.W.kla_fn "<lambda>" q params body scope cl pm (.ref c') ctv) ⟨[u], []⟩ = pure [(p, u)])
    (g0 : glB (defScope st) (Str.ofString "tuple") = true) (g1 : glB (defScope st) (Str.ofString "sorted") = true) (g2 : glB (defScope st) (Str.ofString "range") = true)
    (m0 : mg (Str.ofString "tuple") = none) (m1 : mg (Str.ofString "sorted") = none) (m2 : mg (Str.ofString "range") = none)
    (l1 : Lk K mg (Fx P w K mg base (k + 3)) (Go P w K mg base (k + 3)) en) (c1 : ce ps en (defScope st) e = true) (oe : odd e = false)
    (l2 : Lk K mg (Fx P w K mg base k) (Go P w K mg base k) eb) (c2 : ce (ps ++ [p]) eb scope body = true) : Fx P w K mg base (k + 4) x (sortFn x ps.length (den en) (den eb)) := by
  refine ⟨f, fd, ps, hm, F.kp, hb, fun _ _ _ _ h => sortFn_ar h, ?_⟩
  obtain ⟨oc, od, dV, kV, doc, pm, an, cdv, ct, osl, rfl, lk, hcd⟩ := F.ex
  have arity : ∀ vs H Q E, spOf K (sortFn x ps.length (den en) (den eb)) vs H Q E → vs.length = ps.length := fun vs H Q E h => by
    obtain ⟨W, S, as, _, _, rs, r, S', e, _⟩ := h
    rw [← rs.len]; exact sortFn_ar e
  refine fn_of lk hcd Sc arity fun A outer s H vs Q E hr h => ?_
  obtain ⟨W, S, as, rfl, R, rs, PO⟩ := h
  obtain ⟨r, S', hok, post⟩ := id PO
  have hlen : as.length = ps.length := sortFn_ar hok
  have htab := sortFn_tab hok
  unfold sortFn at PO
  rw [if_pos ⟨hlen, htab⟩] at PO
  have g : GE P w K mg base (k + 3) ps (cxOf CX0 P w K mg base ps x (defScope st) f cdv A outer s W.H E).nox (defScope st) := ⟨rfl, rfl, rfl, rfl, rfl, rfl, Sc.nd, rfl, hr, rfl⟩
  have st0 : Stt K W (as.map some) S (L2.start ps vs) W.H := by
    have hl2 := rs.len
    refine ⟨rfl, R, by unfold L2.start; simp; omega, fun i a e => ?_⟩
    unfold L2.start
    rw [List.getElem?_map] at e
    cases ea : as[i]? with
    | none => rw [ea] at e; cases e
    | some b =>
      rw [ea] at e
      cases e
      obtain ⟨y, h1, h2⟩ := rs.get ea
      exact ⟨y, by rw [List.getElem?_append_left (by rw [List.length_map]; exact (List.getElem?_eq_some_iff.mp h1).1), List.getElem?_map, h1]; rfl, h2⟩
  have hn : PE (cxOf CX0 P w K mg base ps x (defScope st) f cdv A outer s W.H E).nox e (T K (den en)) := (okE en).val _ _ _ g l1 c1
  have tabs : ∀ a, TabAt K x a → ∃ c, cdv = .ref c ∧ LamX.TabB base mg c a := fun a h => by
    obtain ⟨f', c, o', oc', fd', vs', k1, k2, k3, k4, k5, k6, k7⟩ := h
    rw [ns] at k1; cases k1
    rw [lk] at k2; cases k2
    cases k3
    exact ⟨c, k4, tb c a oc' vs' k4 k5 k6 k7⟩
  -- the sort, whatever the store tells
  have hs : PE (cxOf CX0 P w K mg base ps x (defScope st) f cdv A outer s W.H E).nox (.Call (.Name (Str.ofString "sorted") p1) [.Call (.Name (Str.ofString "range") p2) [e] [] p3] [⟨some (Str.ofString "key"), .Lambda params body scope lpos, kpos⟩] pos) (fun σ H Q => (∃ a, TabAt K x a) ∧ T K (sortLamD x (den en) (den eb)) σ H Q) := by
    refine ⟨fun pins s1 σ H1 Q1 I1 h1 => ?_⟩
    obtain ⟨⟨a, ha⟩, h1⟩ := h1
    obtain ⟨c, hc, TB⟩ := tabs a ha
    subst hc
    refine (pe_sortlam (X := (cxOf CX0 P w K mg base ps x (defScope st) f (.ref c) A outer s W.H E).nox) (x := x) (c := c) (P := a) (p := p) (k := k) rfl TB rfl hq (dfl _) (fun b hb => TabAt.one ha hb) L hr (fun cl pm c' ctv u => hbind _ cl pm c' ctv u) (fun A1 s1 H1 f1 c1 hr1 => ?_)
      (g.gl g1).1 m1 (g.gl g2).1 m2 hn oe).run pins s1 σ H1 Q1 I1 h1
    exact (okE eb).val _ scope body ⟨rfl, rfl, rfl, rfl, rfl, rfl, nd, rfl, hr1, rfl⟩ l2 c2
  have ht := pe_tupleOf (X := (cxOf CX0 P w K mg base ps x (defScope st) f cdv A outer s W.H E).nox) (p := p4) (pos := p5) (g.gl g0).1 m0 hs rfl
  refine ⟨_, by rw [hB]; exact PSs.nox (pss_one (ps_ret (pos := p6) ht)), ?_⟩
  have tabW : ∃ a, TabAt K x a := by
    obtain ⟨i, hi⟩ := htab
    exact ⟨_, (R.obj i _ hi).1⟩
  refine ⟨tabW, ?_⟩
  refine T.bd st0 PO fun z S1 W1 v L1 s1 ra P1 => ?_
  cases z with
  | lst l =>
    cases ra with
    | lst h1 h2 h3 =>
      refine .inl ⟨_, _, rfl, SqL.of h1, fun q hq => ?_⟩
      exact P1.tup s1.rep h3 hq
  | _ => exact P1.no.elim
end
end VI

set_option maxRecDepth 100000
set_option maxHeartbeats 1000000
/-! VLE: a def of a keyed sort by a look at its text; the end of a law that has such a def. -/
namespace VI
open PySem PySem.Spec PyProof.Rows L2 RZ
/-- what is sorted by: the range's end, the lambda's parameters, body and scope -/
structure LamT where
  e : Expr
  par : Arguments
  body : Expr
  sc : Scope
def lamBody (b : List Stmt) : Option LamT := match b with
  | [.Return (some (.Call (.Name t _) [.Call (.Name so _) [.Call (.Name rg _) [e] [] _] [⟨some ky, .Lambda par body sc _, _⟩] _] [] _)) _] => if decide (t = Str.ofString "tuple") && decide (so = Str.ofString "sorted") && decide (rg = Str.ofString "range") && decide (ky = Str.ofString "key") then some ⟨e, par, body, sc⟩ else none
  | _ => none
theorem lamBody_eq {b : List Stmt} {r : LamT} (h : lamBody b = some r) : ∃ p4 p1 p2 p3 lpos kpos pos p5 p6,
    b = [.Return (some (.Call (.Name (Str.ofString "tuple") p4) [.Call (.Name (Str.ofString "sorted") p1) [.Call (.Name (Str.ofString "range") p2) [r.e] [] p3] [⟨some (Str.ofString "key"), .Lambda r.par r.body r.sc lpos, kpos⟩] pos] [] p5)) p6] := by
  unfold lamBody at h
  split at h
  · split at h
    · rename_i q
      simp only [Bool.and_eq_true, decide_eq_true_eq] at q
      obtain ⟨⟨⟨rfl, rfl⟩, rfl⟩, rfl⟩ := q
      cases h
      exact ⟨_, _, _, _, _, _, _, _, _, rfl⟩
    · cases h
  · cases h
/-- one parameter p alone -/
def lamPar (a : Arguments) (p : Str) : Bool := match a with
  | ⟨[], [⟨x, none, _⟩], none, [], [], none, []⟩ => decide (x = p)
  | _ => false
theorem lamPar_eq {a : Arguments} {p : Str} (h : lamPar a p = true) : ∃ pos, a = ⟨[], [⟨p, none, pos⟩], none, [], [], none, []⟩ := by
  unfold lamPar at h
  split at h
  · obtain rfl := of_decide_eq_true h
    exact ⟨_, rfl⟩
  · cases h
def lamS1B (sc scope : Scope) (N : List Str) (p : Str) : Bool :=
  decide (scope.kind = .function) && !scope.isCoroutine && !scope.isGenerator && decide (scope.names.lookup p = some .local) &&
    (scope.names.all fun y => !decide (y.2 = .cell) && (!decide (y.2 = .local) || decide (y.1 = p)) && (!decide (y.2 = .free) || decide (sc.names.lookup y.1 = some .cell) || decide (sc.names.lookup y.1 = some .free))) && !decide (p ∈ N)
theorem lamS1_by {sc scope : Scope} {N : List Str} {p : Str} (h : lamS1B sc scope N p = true) : LamS1 sc scope N p := by
  unfold lamS1B at h
  simp only [Bool.and_eq_true, Bool.or_eq_true, Bool.not_eq_true', decide_eq_true_eq, decide_eq_false_iff_not, List.all_eq_true] at h
  obtain ⟨⟨⟨⟨⟨h1, h2⟩, h3⟩, h4⟩, h5⟩, h6⟩ := h
  refine ⟨h1, h2, h3, h4, fun y hy => ⟨(h5 y hy).1.1, fun e => (h5 y hy).1.2.elim (fun z => absurd e z) fun z => z⟩, fun y hy e => ?_, h6⟩
  rcases (h5 y hy).2 with (z | z) | z
  · exact absurd e z
  · exact .inl z
  · exact .inr z
def lamOk (b : List Stmt) (sc : Scope) (ps : List Str) (p : Str) (en eb : E) : Bool := match lamBody b with
  | some r => lamPar r.par p && lamS1B sc r.sc ps p && decide ((ps ++ [p]).Nodup) && glB sc (Str.ofString "tuple") && glB sc (Str.ofString "sorted") && glB sc (Str.ofString "range") && ce ps en sc r.e && !odd r.e && ce (ps ++ [p]) eb r.sc r.body
  | none => false
section
variable {P : Program} {w : World} {K : PySem.W.Frag} {mg : Str → Option Value} {base : Heap} {k : Nat}
theorem fx_lamB {x : Str} {st : Stmt} {f : Addr} {fd : FuncData} {ps : List Str} {p : Str} {en eb : E} (F : FunA K x x st f fd) (hm : mg x = some (.ref f)) (ns : PySem.W.nsIn K mainGlobals x = some (some (.ref f)))
    (hb : Binds K fd ps []) (Sc : FnScope ps ps (defScope st)) (hk : lamOk (defBody st) (defScope st) ps p en eb = true)
    (tb : ∀ c T oc vs, fd.code = .ref c → K.lookup c = some oc → oc.data = .fields vs → vs[11]? = some (.ref T) → LamX.TabB base mg c T)
    (hq : (x ++ ".<locals>.") ++ "<lambda>" = x ++ Str.ofString ".<locals>.<lambda>")
    (hbind : ∀ (pp : Pos) (q : Str) (body : Expr) (sc : Scope) (cl : List (Str × Addr)) (pm : Value) (c' : Addr) (ctv u : Value), bindArgs (PySem.W.kla_fn "<lambda>" q ⟨[], [⟨p, none, pp⟩], none, [], [], none, []⟩ body sc cl pm (.ref c') ctv) ⟨[u], []⟩ = pure [(p, u)])
    (m0 : mg (Str.ofString "tuple") = none) (m1 : mg (Str.ofString "sorted") = none) (m2 : mg (Str.ofString "range") = none)
    (l1 : Lk K mg (Fx P w K mg base (k + 3)) (Go P w K mg base (k + 3)) en) (l2 : Lk K mg (Fx P w K mg base k) (Go P w K mg base k) eb) : Fx P w K mg base (k + 4) x (sortFn x ps.length (den en) (den eb)) := by
  unfold lamOk at hk
  cases hr : lamBody (defBody st) with
  | none => rw [hr] at hk; cases hk
  | some r =>
    rw [hr] at hk
    simp only [Bool.and_eq_true, Bool.not_eq_true', decide_eq_true_eq] at hk
    obtain ⟨⟨⟨⟨⟨⟨⟨⟨h1, h2⟩, h3⟩, h4⟩, h5⟩, h6⟩, h7⟩, h8⟩, h9⟩ := hk
    obtain ⟨_, _, _, _, _, _, _, _, _, hB⟩ := lamBody_eq hr
    obtain ⟨pp, hp⟩ := lamPar_eq h1
    exact fx_lam F hm ns hb Sc hB tb hq (fun env => by rw [hp]; rfl) (lamS1_by h2) h3 (fun q cl pm c' ctv u => by rw [hp]; exact hbind _ _ _ _ _ _ _ _ _) h4 h5 h6 m0 m1 m2 l1 h7 h8 l2 h9
end
/-- what is known of the law's promise where the def y has a table -/
def LawTab (l : PySem.W.OpenLaw) (w : World) (K : PySem.W.Frag) (k : Nat) (x y : Str) (mg : Str → Option Value) (fa : Addr) (d : Fn) : Prop :=
  ∃ (fd fy : FuncData) (b c T : Addr) (oy oc : Obj) (vs : Array Value), PySem.W.nsIn K mainGlobals y = some (some (.ref b)) ∧ K.lookup b = some oy ∧ oy.data = .func fy ∧ fy.code = .ref c ∧ K.lookup c = some oc ∧ oc.data = .fields vs ∧ vs[11]? = some (.ref T) ∧ K.lookup T = none ∧
    (∀ (s : Shared) (u : Value), BindsTo s fd ⟨[u], []⟩ [(x, u)]) ∧ ∀ base : Heap, K.In base → base.Ns mainGlobals mg → LamX.TabB base mg c T → FnOk l.prog w K mg base CX0 k fa fd [x] (spOf K d)
theorem walk_ofTab {l : PySem.W.OpenLaw} {n k : Nat} {q : Program} {loose : List Str} {XP : (Str → Option Value) → Heap → Prop} {YP : World → Heap → Prop} {dr : DefRec} {K : Params → PySem.W.Frag} {x y : Str} {d : Fn} (hn : l.most = some n) (hn2 : n ≤ sizeLine) (hdf : dr.params.defaults = []) (hr : Room k callerA)
    (hrec : ((recsOf q).any fun e => e.name == y) = true) (hY : ∀ (w : World) (h : Heap), YP w h → (K w.params).In h)
    (F : ∀ (w : World) (mg : Str → Option Value) (fa : Addr) (h : Heap), (K w.params).In h → h.Ns mainGlobals mg → mg dr.name = some (.ref fa) → LawTab l w (K w.params) k x y mg fa d)
    (hlaw : ∀ ns : List Int, ns.length ≤ n → ∃ S', d [.scr ns] [.tab y] = .ok (.bl true) S') : PySem.W.WalkO q loose XP YP l.row.toRowW dr [] (fun f vs => PySem.call f vs) := by
  refine Att.attach_callB hn hdf fun w s₀ s₁ mg mb fa o pm cd doc a vs ns G Y ho hd hcd hmg hobj hints hlen hbits hg => ?_
  have KX := hY w _ Y
  obtain ⟨fd, fy, b, c, T, oy, oc, vc, h1, h2, h3, h4, h5, h6, h7, h8, hb, hF⟩ := F w mg fa _ KX G.T.g hmg
  obtain ⟨dL, mem, eq⟩ := List.any_eq_true.mp hrec
  have eq2 : dL.name = y := beq_iff_eq.mp eq
  obtain ⟨a', o', fd', c', P', k1, k2, k3, k4, k5, k6⟩ := G.T.tab dL mem
  rw [eq2, PySem.W.mg_of KX G.T.g h1] at k1
  cases k1
  have g1 := KX _ _ h2
  rw [g1] at k2
  cases k2
  rw [h3] at k3
  cases k3
  rw [h4] at k4
  cases k4
  have g2 := KX _ _ h5
  obtain ⟨⟨oc2, vc2, e1, e2, e3, e4⟩, hP⟩ := id k6
  rw [g2] at e1
  cases e1
  rw [h6] at e3
  cases e3
  rw [h7] at e4
  cases e4
  refine LamX.law_callTs (cs := [(c, T)]) (CX := CX0) (k := k) (fd := fd) (x := x) (sp := spOf (K w.params) d) KX G.T.g G.T.b G.T.builtins G.T.nolimit hg (fun p hp => ?_) (fun p hp => ?_) (fun p hp => ?_) G.T.bmain hobj hints (Nat.le_trans hlen hn2) hr (fun base B1 B2 B3 => hF base B1 B2 (B3 (c, T) (by simp))) hb (fun H hH hS => ?_) fun H e s' z => z
  · rw [List.mem_singleton.mp hp]; exact hP
  · rw [List.mem_singleton.mp hp]; exact h8
  · rw [List.mem_singleton.mp hp]; exact PySem.W.CodeHd.of k5 k6
  · obtain ⟨S', e⟩ := hlaw ns hlen
    have eT : H T = some (.tbl #[]) := hH (c, T) (by simp)
    have far : ∀ b u, H b = some u → (∀ ps, u ≠ .tbl ps) → T ≠ b := fun b u e hu z => by
      rw [← z, eT] at e
      exact hu _ (Option.some.inj e).symm
    refine ⟨⟨fun _ => T, 1, fun _ => False, H, fun _ => False⟩, [.tab y], [.scr ns], rfl, ⟨rfl, fun i j hi hj _ => ?_, fun a q => q.elim, fun i o q => ?_, fun a q => q.elim⟩, .cons ?_ .nil, .bl true, S', e, fun W' x _ _ r => by cases r; rfl⟩
    · change i < 1 at hi
      change j < 1 at hj
      omega
    · cases i with
      | zero =>
        cases q
        refine ⟨⟨b, c, oy, oc, fy, vc, h1, h2, h3, h4, h5, h6, h7⟩, #[], eT, True.intro, fun pos cv hc => ?_⟩
        have z : codeAmong pos [] = some cv := hc
        simp [codeAmong] at z
      | succ i => simp at q
    · rcases hS with (hS | ⟨o, hS⟩) | ⟨o, its, n, h1⟩
      · exact .scl hS ⟨fun q => q, fun i hi => far _ _ hS fun ps z => by cases z⟩
      · exact .scr hS ⟨fun q => q, fun i hi => far _ _ hS fun ps z => by cases z⟩
      · exact .kscr fun H' => .inr ⟨o, its, n, h1⟩
end VI

set_option maxRecDepth 100000
/-! LM: lines, bags as wholes; buckets and when they come. -/
namespace VI
open PySem PySem.Spec PyProof.Rows L2
noncomputable def b_place_at : St :=
  (.cons (.ret (.bin false .mod (.bin false .add (.v 1) (.v 2)) (.call (Str.ofString "length_of") d_length_of (.cons (.v 0) .nil))))
    .nil)
noncomputable def d_place_at : Fn := mkFn false 3 3 b_place_at

noncomputable def b_next_pass : St :=
  (.cons (.asg (.n 4) (.bin false .mod (.bin false .sub (.v 2) (.call (Str.ofString "place_at") d_place_at (.cons (.v 0) (.cons (.v 1) (.cons (.v 3) .nil))))) (.call (Str.ofString "length_of") d_length_of (.cons (.v 0) .nil))))
    (.cons (.ifs (.cmp .eq (.v 4) (.c (.int 0))) (.cons (.asg (.n 4) (.call (Str.ofString "length_of") d_length_of (.cons (.v 0) .nil)))
    .nil) .nil)
    (.cons (.ret (.bin false .add (.v 3) (.v 4)))
    .nil)))
noncomputable def d_next_pass : Fn := mkFn false 4 5 b_next_pass

noncomputable def b_passes : St :=
  (.cons (.asg (.n 5) (.call (Str.ofString "next_pass") d_next_pass (.cons (.v 0) (.cons (.v 1) (.cons (.v 2) (.cons (.v 3) .nil))))))
    (.cons (.ifs (.cmp .gt (.v 5) (.v 4)) (.cons (.ret (.c (.int 0)))
    .nil) .nil)
    (.cons (.ret (.bin false .add (.c (.int 1)) (.bin false .fdiv (.bin false .sub (.v 4) (.v 5)) (.call (Str.ofString "length_of") d_length_of (.cons (.v 0) .nil)))))
    .nil)))
noncomputable def d_passes : Fn := mkFn false 5 6 b_passes

noncomputable def c_stops_of_0 : E := (.comp false [1] (.n 1) (.itv (.ix (.v 0) (.c (.int 1)))) (.bin false .sub (.call (Str.ofString "length_of") d_length_of (.cons (.v 0) .nil)) (.v 1)) .nop)
noncomputable def b_stops_of : St :=
  (.cons (.ret (.prim false .sorted (.cons (.bin false .add (.prim false .list (.cons (.call (Str.ofString "ends_of") d_ends_of (.cons (.v 0) .nil)) .nil)) c_stops_of_0) .nil)))
    .nil)
noncomputable def d_stops_of : Fn := mkFn false 1 2 b_stops_of

noncomputable def c_wear_0 : E := (.comp false [3] (.n 3) (.itv (.call (Str.ofString "stops_of") d_stops_of (.cons (.v 0) .nil))) (.call (Str.ofString "passes") d_passes (.cons (.v 0) (.cons (.v 1) (.cons (.v 3) (.cons (.c (.int 0)) (.cons (.v 2) .nil)))))) .nop)
noncomputable def b_wear : St :=
  (.cons (.ret (.prim false .sum (.cons c_wear_0 .nil)))
    .nil)
noncomputable def d_wear : Fn := mkFn false 3 4 b_wear

noncomputable def w_law_clips_0 : St := (.cons (.asg (.n 5) (.ix (.lst false (.cons (.call (Str.ofString "_law_take") d_law_take (.cons (.v 0) (.cons (.bin false .mul (.c (.int 2)) (.ix (.v 1) (.c (.int 0)))) .nil))) (.cons (.call (Str.ofString "_law_take") d_law_take (.cons (.v 0) (.cons (.c (.int 3)) .nil))) .nil))) (.prim false .int (.cons (.cmp .eq (.call (Str.ofString "_law_take") d_law_take (.cons (.v 0) (.cons (.c (.int 4)) .nil))) (.c (.int 0))) .nil))))
    (.cons (.ifs (.cmp .nin (.v 5) (.v 3)) (.cons (.ex (.met false .append (.v 3) (.cons (.v 5) .nil)))
    .nil) .nil)
    .nil))
noncomputable def b_law_clips : St :=
  (.cons (.asg (.n 3) (.lst true .nil))
    (.cons (.for (.n 4) (.it1 (.bin false .add (.c (.int 1)) (.call (Str.ofString "_law_take") d_law_take (.cons (.v 0) (.cons (.v 2) .nil))))) w_law_clips_0)
    (.cons (.ret (.prim false .tuple (.cons (.v 3) .nil)))
    .nil)))
noncomputable def d_law_clips : Fn := mkFn false 3 6 b_law_clips

noncomputable def b_law_run : St :=
  (.cons (.ret (.ix (.lst false (.cons (.call (Str.ofString "_law_take") d_law_take (.cons (.v 0) (.cons (.c (.int 9)) .nil))) (.cons (.call (Str.ofString "_law_take") d_law_take (.cons (.v 0) (.cons (.bin false .mul (.c (.int 8)) (.ix (.v 1) (.c (.int 0)))) .nil))) (.cons (.call (Str.ofString "_law_take") d_law_take (.cons (.v 0) (.cons (.bin false .add (.bin false .pow (.c (.int 10)) (.c (.int 30))) (.c (.int 1))) .nil))) .nil)))) (.call (Str.ofString "_law_take") d_law_take (.cons (.v 0) (.cons (.c (.int 3)) .nil)))))
    .nil)
noncomputable def d_law_run : Fn := mkFn false 2 2 b_law_run

@[simp] theorem fit_lit2 : Fit 2 := fit_of (by decide) (by decide +kernel)
@[simp] theorem fit_lit3 : Fit 3 := fit_of (by decide) (by decide +kernel)
@[simp] theorem fit_lit4 : Fit 4 := fit_of (by decide) (by decide +kernel)
@[simp] theorem fit_lit6 : Fit 6 := fit_of (by decide) (by decide +kernel)
@[simp] theorem fit_lit7 : Fit 7 := fit_of (by decide) (by decide +kernel)
@[simp] theorem fit_lit8 : Fit 8 := fit_of (by decide) (by decide +kernel)
@[simp] theorem fit_lit10 : Fit 10 := fit_of (by decide) (by decide +kernel)
@[simp] theorem fit_lit18 : Fit 18 := fit_of (by decide) (by decide +kernel)
@[simp] theorem fit_lit20 : Fit 20 := fit_of (by decide) (by decide +kernel)
@[simp] theorem fit_lit0 : Fit 0 := fit_of (by decide) (by decide +kernel)
@[simp] theorem fit_lit1 : Fit 1 := fit_of (by decide) (by decide +kernel)
theorem set_l2 {α : Type} (S : List α) (x y a b : α) (T : List α) : (S ++ x :: y :: a :: T).set (S.length + 2) b = S ++ x :: y :: b :: T := by simp [List.set_append_right]
theorem get_l2 {α : Type} (S : List α) (x y a : α) (T : List α) : (S ++ x :: y :: a :: T)[S.length + 2]? = some a := by simp [List.getElem?_append_right]
@[simp] theorem ex_not (b : Bool) (X : Bool → Prop) : (∃ t, b = !t ∧ X t) ↔ X (!b) := by
  constructor
  · rintro ⟨t, rfl, h⟩; simpa using h
  · intro h; exact ⟨!b, by simp, h⟩
/-- what stands in a slot -/
abbrev At (ρ : Ev) (i : Nat) (v : AV) : Prop := ρ[i]? = some (some v)
/-! a piece that surely comes to one value, the store left -/
theorem ok_of {α : Type} {x : Out α} {a : α} {S : Store} (h : wp x fun b S' => b = a ∧ S' = S) : x = .ok a S := by
  obtain ⟨b, S', e, rfl, rfl⟩ := h
  exact e
theorem ok_all {α : Type} {x : Out α} {a : α} {S : Store} (h : ∀ Q : α → Store → Prop, Q a S → wp x Q) : x = .ok a S := ok_of (h _ ⟨rfl, rfl⟩)
/-! a bag as a whole -/
structure Bag where
  c : Int
  g : Int
  ok : BagOk c g
def Bag.o (b : Bag) : AObj := bagO b.c b.g
theorem Bag.nl (b : Bag) : b.o.noLoc = true := rfl
theorem fitT {i : Int} (h0 : 0 ≤ i) (h : i ≤ 10000000000000000000000000000000) : Fit i := fit_of h0 (Int.lt_of_le_of_lt h (by decide +kernel))
theorem wp_tk {S : Store} {i : Nat} {b : Bag} {m : Int} {Q : AV → Store → Prop} (h : S[i]? = some b.o) (h0 : 0 < m) (hm : m ≤ 10000000000000000000000000000000)
    (q : ∀ (r : Int) (b' : Bag), 0 ≤ r → r < m → Q (.int r) (S.set i b'.o)) : wp (d_law_take [.loc i, .int m] S) Q :=
  wp_take h b.ok h0 (Int.lt_of_le_of_lt hm (by decide +kernel)) fun r c g r0 r1 k => q r ⟨c, g, k⟩ r0 r1
theorem wp_bg {S : Store} {ns : List Int} {k : Int} {Q : AV → Store → Prop} (h0 : 0 ≤ k) (hk : k ≤ 63) (q : ∀ b : Bag, Q (.loc S.length) (S ++ [b.o])) : wp (d_law_bag [.scr ns, .int k] S) Q :=
  wp_bag h0 hk fun c g b => q ⟨c, g, b⟩
/-- one of some numbers -/
theorem pick {l : List Int} {r : Int} (h0 : 0 ≤ r) (h1 : r.toNat < l.length) : ∃ m, m ∈ l ∧ atI (l.map AV.int) r = some (.int m) :=
  ⟨l[r.toNat], List.getElem_mem h1, by rw [atI_in h0 (by simpa using h1)]; simp⟩
/-! a line as a whole -/
structure Line where
  H : Int
  ps : List Int
  ok : LineOk 1000000 H ps
def Line.av (L : Line) : AV := lineA L.H L.ps
def Line.len (L : Line) : Int := 2 * L.H
theorem Line.h2 (L : Line) : 2 ≤ L.H := L.ok.1
theorem Line.hm (L : Line) : L.H ≤ 1000000 := L.ok.2.1
theorem Line.pos (L : Line) : 0 < L.len := by have := L.h2; unfold Line.len; omega
theorem Line.l4 (L : Line) : 4 ≤ L.len := by have := L.h2; unfold Line.len; omega
theorem Line.lm (L : Line) : L.len ≤ 2000000 := by have := L.hm; unfold Line.len; omega
theorem Line.p8 (L : Line) : L.ps.length ≤ 8 := L.ok.2.2.2.2
@[simp] theorem Line.nl (L : Line) : L.av.noLoc = true := nl_tup.2 (by simp; exact nl_tup.2 (by simp))
@[simp] theorem x_len (L : Line) (S : Store) : d_length_of [L.av] S = .ok (.int L.len) S := ok_all fun Q q => wp_len (by have := L.h2; omega) (by have := L.hm; omega) q
@[simp] theorem fit_len (L : Line) : Fit L.len := fit_c _ (by have := L.pos; omega) (by have := L.lm; omega)
@[simp] theorem ix_l0 (L : Line) (S : Store) : ixD L.av (.int 0) S = .ok (.int L.H) S := by
  unfold Line.av lineA
  simp
@[simp] theorem ix_l1 (L : Line) (S : Store) : ixD L.av (.int 1) S = .ok (.tup (L.ps.map .int)) S := by
  unfold Line.av lineA
  simp
@[simp] theorem fit_H (L : Line) : Fit L.H := fit_c _ (by have := L.h2; omega) (by have := L.hm; omega)
@[simp] theorem two_H (L : Line) : 2 * L.H = L.len := rfl
@[simp] theorem pos_len (L : Line) : 0 < L.len := L.pos
theorem x_place_at (L : Line) (c r : Int) (S : Store) : d_place_at [L.av, .int c, .int r] S = .ok (.int ((c + r) % L.len)) S := by
  refine ok_all fun Q q => wp_fn rfl ?_
  try simp [-Prod.forall, -Prod.exists, -Bool.exists_bool, -Bool.forall_bool, -getElem?_pos, At, List.getElem?_cons_zero, List.getElem?_cons_succ, get_l0, get_l1, get_l2, set_l0, set_l1, set_l2, b_place_at]
  exact .pure rfl q
/-! rests and whole parts -/
theorem neg_mod {L x : Int} (h : 0 < L) : (-x) % L = if x % L = 0 then 0 else L - x % L := by
  have h1 := Int.emod_nonneg x (Int.ne_of_gt h)
  have h2 := Int.emod_lt_of_pos x h
  have e := Int.mul_ediv_add_emod x L
  split
  · rename_i h0
    exact Int.emod_eq_zero_of_dvd (Int.dvd_neg.2 (Int.dvd_of_emod_eq_zero h0))
  · have e2 : -x = (L - x % L) + L * (-(x / L) - 1) := by
      rw [Int.mul_sub, Int.mul_neg]; omega
    rw [e2, Int.add_mul_emod_self_left]
    exact Int.emod_eq_of_lt (by omega) (by omega)
theorem div_add_mul {L x k : Int} (h : 0 < L) : (x + L * k) / L = x / L + k := Int.add_mul_ediv_left _ _ (Int.ne_of_gt h)
theorem div_of {L x q r : Int} (h0 : 0 ≤ r) (h1 : r < L) (e : x = L * q + r) : x / L = q := by
  have h : 0 < L := by omega
  rw [e, Int.add_comm, div_add_mul h, Int.ediv_eq_zero_of_lt h0 h1]; omega
theorem mod_of {L x q r : Int} (h0 : 0 ≤ r) (h1 : r < L) (e : x = L * q + r) : x % L = r := by
  rw [e, Int.add_comm, Int.add_mul_emod_self_left]
  exact Int.emod_eq_of_lt h0 h1
/-- one more -/
theorem div_succ {L x : Int} (h : 0 < L) : (x + 1) / L = x / L + if (x + 1) % L = 0 then 1 else 0 := by
  have h1 := Int.emod_nonneg x (Int.ne_of_gt h)
  have h2 := Int.emod_lt_of_pos x h
  have e := Int.mul_ediv_add_emod x L
  by_cases hc : x % L + 1 = L
  · have e3 : x + 1 = L * (x / L + 1) + 0 := by rw [Int.mul_add]; omega
    rw [div_of (by omega) h e3, mod_of (by omega) h e3, if_pos rfl]
  · have e3 : x + 1 = L * (x / L) + (x % L + 1) := by omega
    rw [div_of (by omega) (by omega) e3, mod_of (by omega) (by omega) e3, if_neg (by omega)]; omega
theorem mod_succ {L x : Int} (h : 0 < L) : (x + 1) % L = if x % L + 1 = L then 0 else x % L + 1 := by
  have h1 := Int.emod_nonneg x (Int.ne_of_gt h)
  have h2 := Int.emod_lt_of_pos x h
  have e := Int.mul_ediv_add_emod x L
  split
  · exact mod_of (q := x / L + 1) (by omega) h (by rw [Int.mul_add]; omega)
  · exact mod_of (q := x / L) (by omega) (by omega) (by omega)
theorem div_mono {L x y : Int} (h : 0 < L) (hxy : x ≤ y) : x / L ≤ y / L := Int.ediv_le_ediv h hxy
/-! when it comes -/
def nextP (L d r : Int) : Int := r + (L - (r + d) % L)
theorem nextP_mul {L d r : Int} : nextP L d r = L * ((r + d) / L + 1) - d := by
  have e := Int.mul_ediv_add_emod (r + d) L
  unfold nextP
  rw [Int.mul_add]; omega
theorem x_next_pass (L : Line) (c p r : Int) (S : Store) : d_next_pass [L.av, .int c, .int p, .int r] S = .ok (.int (nextP L.len (c - p) r)) S := by
  refine ok_all fun Q q => wp_fn rfl ?_
  try simp [-Prod.forall, -Prod.exists, -Bool.exists_bool, -Bool.forall_bool, -getElem?_pos, At, List.getElem?_cons_zero, List.getElem?_cons_succ, get_l0, get_l1, get_l2, set_l0, set_l1, set_l2, b_next_pass, x_place_at]
  have e := neg_mod (x := r + (c - p)) L.pos
  rw [show -(r + (c - p)) = p - (c + r) by omega] at e
  rw [e]
  unfold nextP at q
  by_cases h : (r + (c - p)) % L.len = 0
  · rw [if_pos h]
    rw [h] at q
    exact ⟨fun _ => .pure rfl (by simpa using q), fun k => absurd rfl k⟩
  · rw [if_neg h]
    have := Int.emod_lt_of_pos (r + (c - p)) L.pos
    exact ⟨fun _ => by omega, fun _ => .pure rfl q⟩
/-- how often a place d behind comes, behind f, up to l -/
def passN (L d f l : Int) : Int := (l + d) / L - (f + d) / L
theorem x_passes (L : Line) (c p f l : Int) (S : Store) (h : f ≤ l) : d_passes [L.av, .int c, .int p, .int f, .int l] S = .ok (.int (passN L.len (c - p) f l)) S := by
  refine ok_all fun Q q => wp_fn rfl ?_
  try simp [-Prod.forall, -Prod.exists, -Bool.exists_bool, -Bool.forall_bool, -getElem?_pos, At, List.getElem?_cons_zero, List.getElem?_cons_succ, get_l0, get_l1, get_l2, set_l0, set_l1, set_l2, b_passes, x_next_pass]
  generalize hd : c - p = d at *
  have hL := L.pos
  have e1 := Int.mul_ediv_add_emod (f + d) L.len
  have h1 := Int.emod_nonneg (f + d) (Int.ne_of_gt hL)
  have h2 := Int.emod_lt_of_pos (f + d) hL
  have em := nextP_mul (L := L.len) (d := d) (r := f)
  have en : nextP L.len d f = f + (L.len - (f + d) % L.len) := rfl
  by_cases hb : l < nextP L.len d f
  · refine ⟨fun _ => .pure rfl ?_, fun _ => by omega⟩
    have : passN L.len d f l = 0 := by
      unfold passN
      rw [div_of (L := L.len) (x := l + d) (q := (f + d) / L.len) (r := l + d - L.len * ((f + d) / L.len)) (by omega) (by omega) (by omega)]
      omega
    rw [← this]; exact q
  · refine ⟨fun _ => by omega, fun _ => .pure rfl ?_⟩
    have : passN L.len d f l = 1 + (l - nextP L.len d f) / L.len := by
      unfold passN
      rw [em, show l - (L.len * ((f + d) / L.len + 1) - d) = (l + d) + L.len * (-((f + d) / L.len + 1)) by rw [Int.mul_neg]; omega, div_add_mul hL]
      omega
    rw [← this]; exact q
/-! a store that has a bag at i, more behind -/
section
variable {S T : Store} {i : Nat} {o o' x y : AObj}
theorem gb (hi : i < S.length) : (S.set i o ++ T)[i]? = some o := by rw [List.getElem?_append_left (by simpa using hi)]; simp [hi]
theorem sb' (hi : i < S.length) : (S.set i o ++ T).set i o' = S.set i o' ++ T := by rw [List.set_append_left _ _ (by simpa using hi), List.set_set]
theorem g0 : (S.set i o ++ x :: T)[S.length]? = some x := by simpa using get_l0 (S.set i o) x T
theorem s0 : (S.set i o ++ x :: T).set S.length y = S.set i o ++ y :: T := by simpa using set_l0 (S.set i o) x y T
theorem gB (hi : i < S.length) : (S ++ T)[i]? = S[i]? := List.getElem?_append_left hi
theorem sB (hi : i < S.length) : (S ++ T).set i o = S.set i o ++ T := List.set_append_left _ _ hi
end
theorem hz {n : Nat} (h : n ≤ 1000) : n ≤ sizeLine := sizeL (by omega)
theorem hzl {n : Nat} (h : n ≤ 1000) : n < sizeLine := sizeLt (by omega)
/-! clips as a whole -/
structure Clips (L : Int) where
  cs : List Int
  ne : cs ≠ []
  nd : cs.Nodup
  rg : ∀ c ∈ cs, 0 ≤ c ∧ c < L
  l12 : cs.length ≤ 12
def Clips.av {L : Int} (C : Clips L) : AV := .tup (C.cs.map .int)
@[simp] theorem Clips.nl {L : Int} (C : Clips L) : C.av.noLoc = true := nl_tup.2 (by simp)
def Clips.hd {L : Int} (C : Clips L) : Int := C.cs.head C.ne
theorem Clips.hd_mem {L : Int} (C : Clips L) : C.hd ∈ C.cs := List.head_mem _
@[simp] theorem ix_c0 {L : Int} (C : Clips L) (S : Store) : ixD C.av (.int 0) S = .ok (.int C.hd) S := by
  unfold Clips.av Clips.hd
  have := C.ne
  obtain ⟨cs, ne, _, _, _⟩ := C
  cases cs with
  | nil => exact absurd rfl ne
  | cons a l => simp
@[simp] theorem len_c {L : Int} (C : Clips L) (S : Store) : lenD S C.av = some C.cs.length := by simp [Clips.av]
@[simp] theorem walk_c {L : Int} (C : Clips L) (S : Store) : walkOf S C.av = some (C.cs.map .int, []) := by simp [Clips.av]
@[simp] theorem en_c {L : Int} (C : Clips L) (S : Store) : enD C.av S = .ok ((C.cs.map AV.int).mapIdx fun k x => .tup [.int k, x], []) S := rfl
theorem wp_clips {S : Store} {i : Nat} {b : Bag} {L : Line} {m : Int} {Q : AV → Store → Prop} (h : S[i]? = some b.o) (h0 : 0 < m) (hm : m ≤ 12) (q : ∀ (C : Clips L.len) (b' : Bag), C.cs.length ≤ m → Q C.av (S.set i b'.o)) : wp (d_law_clips [.loc i, L.av, .int m] S) Q := by
  have hi := lt_of_get h
  have l4 := L.l4
  have lm := L.lm
  have eL : L.len = 2 * L.H := rfl
  refine wp_fn rfl ?_
  unfold b_law_clips
  refine ws_cons fun M hM => ?_
  try simp [-Prod.forall, -Prod.exists, -Bool.exists_bool, -Bool.forall_bool, -getElem?_pos, At, List.getElem?_cons_zero, List.getElem?_cons_succ, get_l0, get_l1, get_l2, set_l0, set_l1, set_l2]
  refine hM _ _ ?_
  refine ws_seq (fun ρ S' => ∃ (cs : List Int) (b' : Bag) (x y : Option AV), cs ≠ [] ∧ cs.Nodup ∧ (∀ c ∈ cs, 0 ≤ c ∧ c < L.len) ∧ cs.length ≤ m ∧ S' = S.set i b'.o ++ [.lst (cs.map .int)] ∧ ρ = [some (.loc i), some L.av, some (.int m), some (.loc S.length), x, y]) ?_ ?_
  · intro M hM
    try simp [-Prod.forall, -Prod.exists, -Bool.exists_bool, -Bool.forall_bool, -getElem?_pos, At, List.getElem?_cons_zero, List.getElem?_cons_succ, get_l0, get_l1, get_l2, set_l0, set_l1, set_l2]
    refine wp_tk (b := b) (by simp [gB hi, h]) (by first | decide | omega) (by first | decide | omega) ?_
    intro r b1 r0 r1
    try simp [-Prod.forall, -Prod.exists, -Bool.exists_bool, -Bool.forall_bool, -getElem?_pos, At, List.getElem?_cons_zero, List.getElem?_cons_succ, get_l0, get_l1, get_l2, set_l0, set_l1, set_l2, sB hi]
    refine ⟨by omega, ?_⟩
    rw [rangeI_av]
    refine wp_forM AV.int (rangeI (1 + r)) (fun k ρ S' => ∃ (cs : List Int) (b' : Bag) (x y : Option AV), (k ≠ 0 → cs ≠ []) ∧ cs.Nodup ∧ (∀ c ∈ cs, 0 ≤ c ∧ c < L.len) ∧ cs.length ≤ k ∧ S' = S.set i b'.o ++ [.lst (cs.map .int)] ∧ ρ = [some (.loc i), some L.av, some (.int m), some (.loc S.length), x, y]) ⟨[], b1, _, _, by simp, by simp, by simp, by simp, rfl, rfl⟩ (fun _ _ _ _ => by simp) ?_ ?_
    · rintro k a ρ S' ha ⟨cs, b2, x, y, hne, hnd, hrg, hl, rfl, rfl⟩ M2 hM2
      have hk : (k : Int) < m := by
        have := lt_of_get ha
        rw [len_rangeI] at this
        omega
      unfold w_law_clips_0
      refine ⟨_, tg_n _ _ _, ?_⟩
      refine ws_cons fun M3 hM3 => ?_
      try simp [-Prod.forall, -Prod.exists, -Bool.exists_bool, -Bool.forall_bool, -getElem?_pos, At, List.getElem?_cons_zero, List.getElem?_cons_succ, get_l0, get_l1, get_l2, set_l0, set_l1, set_l2]
      refine wp_tk (b := b2) (by simp [gb hi]) (by first | decide | omega) (by first | decide | omega) ?_
      intro r1 b3 r10 r11
      try simp [-Prod.forall, -Prod.exists, -Bool.exists_bool, -Bool.forall_bool, -getElem?_pos, At, List.getElem?_cons_zero, List.getElem?_cons_succ, get_l0, get_l1, get_l2, set_l0, set_l1, set_l2, sb' hi]
      refine wp_tk (b := b3) (by simp [gb hi]) (by first | decide | omega) (by first | decide | omega) ?_
      intro r2 b4 r20 r21
      try simp [-Prod.forall, -Prod.exists, -Bool.exists_bool, -Bool.forall_bool, -getElem?_pos, At, List.getElem?_cons_zero, List.getElem?_cons_succ, get_l0, get_l1, get_l2, set_l0, set_l1, set_l2, sb' hi, hz]
      refine wp_tk (b := b4) (by simp [gb hi]) (by first | decide | omega) (by first | decide | omega) ?_
      intro r3 b5 r30 r31
      try simp [-Prod.forall, -Prod.exists, -Bool.exists_bool, -Bool.forall_bool, -getElem?_pos, At, List.getElem?_cons_zero, List.getElem?_cons_succ, get_l0, get_l1, get_l2, set_l0, set_l1, set_l2, sb' hi]
      obtain ⟨p, hp, hp0, hp1⟩ : ∃ p, atI [AV.int r1, AV.int r2] (if r3 = 0 then 1 else 0) = some (.int p) ∧ 0 ≤ p ∧ p < L.len := by
        by_cases h3 : r3 = 0
        · rw [if_pos h3]; exact ⟨_, atI_1 _ _ _, by omega, by omega⟩
        · rw [if_neg h3]; exact ⟨_, atI_0 _ _, by omega, by omega⟩
      try simp [-Prod.forall, -Prod.exists, -Bool.exists_bool, -Bool.forall_bool, -getElem?_pos, At, List.getElem?_cons_zero, List.getElem?_cons_succ, get_l0, get_l1, get_l2, set_l0, set_l1, set_l2, hp]
      refine hM3 _ _ ?_
      by_cases hin : p ∈ cs
      · try simp [-Prod.forall, -Prod.exists, -Bool.exists_bool, -Bool.forall_bool, -getElem?_pos, At, List.getElem?_cons_zero, List.getElem?_cons_succ, get_l0, get_l1, get_l2, set_l0, set_l1, set_l2, in_loc (g0 (x := .lst (cs.map .int))), hin]
        refine hM2 _ _ ⟨cs, b5, _, _, fun _ e => by simp [e] at hin, hnd, hrg, by omega, rfl, rfl⟩
      · try simp [-Prod.forall, -Prod.exists, -Bool.exists_bool, -Bool.forall_bool, -getElem?_pos, At, List.getElem?_cons_zero, List.getElem?_cons_succ, get_l0, get_l1, get_l2, set_l0, set_l1, set_l2, in_loc (g0 (x := .lst (cs.map .int))), g0, s0, hin]
        refine ⟨sizeLt (by omega), hM2 _ _ ⟨cs ++ [p], b5, _, _, by simp, ?_, ?_, by simp; omega, by simp, rfl⟩⟩
        · exact List.nodup_append.2 ⟨hnd, by simp, fun a ha b hb => by rw [List.mem_singleton.1 hb]; rintro rfl; exact hin ha⟩
        · intro c hc
          rcases List.mem_append.1 hc with hc | hc
          · exact hrg c hc
          · rw [List.mem_singleton.1 hc]; exact ⟨hp0, hp1⟩
    · rintro ρ S' ⟨cs, b2, x, y, hne, hnd, hrg, hl, rfl, rfl⟩
      rw [len_rangeI] at hl hne
      exact hM _ _ ⟨cs, b2, x, y, hne (by omega), hnd, hrg, by omega, rfl, rfl⟩
  · rintro ρ S' ⟨cs, b2, x, y, hne, hnd, hrg, hl, rfl, rfl⟩
    try simp [-Prod.forall, -Prod.exists, -Bool.exists_bool, -Bool.forall_bool, -getElem?_pos, At, List.getElem?_cons_zero, List.getElem?_cons_succ, get_l0, get_l1, get_l2, set_l0, set_l1, set_l2, g0]
    exact .setA (nl_tup.2 (by simp)) rfl (q ⟨cs, hne, hnd, hrg, by omega⟩ b2 hl)
@[simp] theorem x_ends (L : Line) (S : Store) : d_ends_of [L.av] S = .ok (.tup ((endsI L.H L.ps).map .int)) S := ok_all fun Q q => wp_ends L.p8 q
/-- a comprehension over ints that changes nothing, without an if -/
theorem comp_i {t : Tg} {e : Ev → Store → Out AV} {cd : Ev → Store → Out AV} {gs : List (Nat × List AV)} {ρ : Ev} {S : Store} (f : Int → AV) (hg : Gd gs S) (xs : List Int) (hl : xs.length ≤ sizeLine)
    (h : ∀ a ∈ xs, ∃ ρ1, tgD t (.int a) ρ = some ρ1 ∧ wp (e ρ1 S) fun v S1 => v = f a ∧ S1 = S) : compD t e (cdD true cd) gs ρ (xs.map .int) S = .ok (xs.map f) S := by
  rw [comp_pure AV.int (fun _ => true) f hg xs hl fun a ha => let ⟨ρ1, h1, h2⟩ := h a ha; ⟨ρ1, h1, by simp, fun _ => h2⟩, List.filter_eq_self.2 (by simp)]
/-- all posts and ends -/
def stopsI (H : Int) (ps : List Int) : List Int := sortI (endsI H ps ++ ps.map fun p => 2 * H - p)
def Line.stops (L : Line) : List Int := stopsI L.H L.ps
theorem Line.stops_len (L : Line) : L.stops.length = 2 * L.ps.length + 2 := by
  unfold Line.stops stopsI
  rw [len_sortI, List.length_append, ends_len, List.length_map]; omega
theorem x_stops_of (L : Line) (S : Store) : d_stops_of [L.av] S = .ok (.lst (L.stops.map .int)) S := by
  have p8 := L.p8
  refine ok_all fun Q q => wp_fn rfl ?_
  try simp [-Prod.forall, -Prod.exists, -Bool.exists_bool, -Bool.forall_bool, -getElem?_pos, At, List.getElem?_cons_zero, List.getElem?_cons_succ, get_l0, get_l1, get_l2, set_l0, set_l1, set_l2, b_stops_of, c_stops_of_0, E.isNop, Line.av, lineA]
  rw [show (AV.tup [AV.int L.H, AV.tup (L.ps.map AV.int)]) = L.av from rfl]
  try simp [-Prod.forall, -Prod.exists, -Bool.exists_bool, -Bool.forall_bool, -getElem?_pos, At, List.getElem?_cons_zero, List.getElem?_cons_succ, get_l0, get_l1, get_l2, set_l0, set_l1, set_l2]
  rw [comp_i (fun p => .int (L.len - p)) (by simp) L.ps (sizeL (by omega)) ?_]
  · try simp [-Prod.forall, -Prod.exists, -Bool.exists_bool, -Bool.forall_bool, -getElem?_pos, At, List.getElem?_cons_zero, List.getElem?_cons_succ, get_l0, get_l1, get_l2, set_l0, set_l1, set_l2, ends_len]
    refine ⟨sizeL (by omega), ?_⟩
    exact .pure (nl_lst.2 (by simp)) q
  · intro a ha
    refine ⟨_, tg_n _ _ _, ?_⟩
    try simp [-Prod.forall, -Prod.exists, -Bool.exists_bool, -Bool.forall_bool, -getElem?_pos, At, List.getElem?_cons_zero, List.getElem?_cons_succ, get_l0, get_l1, get_l2, set_l0, set_l1, set_l2]
/-- how often one came to a post or an end -/
def wearN (L : Int) (ss : List Int) (c t : Int) : Int := (ss.map fun p => passN L (c - p) 0 t).sum
theorem x_wear (L : Line) (c t : Int) (S : Store) (h : 0 ≤ t) : d_wear [L.av, .int c, .int t] S = .ok (.int (wearN L.len L.stops c t)) S := by
  have p8 := L.p8
  refine ok_all fun Q q => wp_fn rfl ?_
  try simp [-Prod.forall, -Prod.exists, -Bool.exists_bool, -Bool.forall_bool, -getElem?_pos, At, List.getElem?_cons_zero, List.getElem?_cons_succ, get_l0, get_l1, get_l2, set_l0, set_l1, set_l2, b_wear, c_wear_0, E.isNop, x_stops_of]
  rw [comp_i (fun p => .int (passN L.len (c - p) 0 t)) (by simp) L.stops (sizeL (by rw [L.stops_len]; omega)) ?_]
  · try simp [-Prod.forall, -Prod.exists, -Bool.exists_bool, -Bool.forall_bool, -getElem?_pos, At, List.getElem?_cons_zero, List.getElem?_cons_succ, get_l0, get_l1, get_l2, set_l0, set_l1, set_l2]
    exact .pure rfl q
  · intro a ha
    refine ⟨_, tg_n _ _ _, ?_⟩
    try simp [-Prod.forall, -Prod.exists, -Bool.exists_bool, -Bool.forall_bool, -getElem?_pos, At, List.getElem?_cons_zero, List.getElem?_cons_succ, get_l0, get_l1, get_l2, set_l0, set_l1, set_l2, x_passes, h]
theorem x_spans (L : Line) (S : Store) : d_law_spans [L.av] S = .ok (.lst ((spanL (L.ps.length + 1)).map (rowA L.H L.ps))) S := ok_all fun Q q => wp_rows L.ok (by decide) q
theorem wp_ln {S : Store} {i : Nat} {b : Bag} {most : Int} {Q : AV → Store → Prop} (h : S[i]? = some b.o) (h1 : 2 ≤ most) (h2 : most ≤ 1000000) (q : ∀ (L : Line) (b' : Bag), L.H ≤ most → Q L.av (S.set i b'.o)) : wp (d_law_line [.loc i, .int most] S) Q :=
  wp_line h b.ok h1 (by omega) fun H ps c g k kb => q ⟨H, ps, k.1, Int.le_trans k.2.1 h2, k.2.2⟩ ⟨c, g, kb⟩ k.2.1
theorem wp_rn {S : Store} {i : Nat} {b : Bag} {L : Line} {Q : AV → Store → Prop} (h : S[i]? = some b.o) (q : ∀ (r : Int) (b' : Bag), 0 ≤ r → r ≤ 1000000000000000000000000000000 → Q (.int r) (S.set i b'.o)) : wp (d_law_run [.loc i, L.av] S) Q := by
  have hi := lt_of_get h
  have lm := L.hm
  have l2 := L.h2
  refine wp_fn rfl ?_
  try simp [-Prod.forall, -Prod.exists, -Bool.exists_bool, -Bool.forall_bool, -getElem?_pos, At, List.getElem?_cons_zero, List.getElem?_cons_succ, get_l0, get_l1, get_l2, set_l0, set_l1, set_l2, b_law_run]
  refine wp_tk (b := b) (by simp [h]) (by first | decide | omega) (by first | decide | omega) ?_
  intro r1 b1 r10 r11
  try simp [-Prod.forall, -Prod.exists, -Bool.exists_bool, -Bool.forall_bool, -getElem?_pos, At, List.getElem?_cons_zero, List.getElem?_cons_succ, get_l0, get_l1, get_l2, set_l0, set_l1, set_l2]
  refine wp_tk (b := b1) (by simp [hi]) (by first | decide | omega) (by first | decide | omega) ?_
  intro r2 b2 r20 r21
  refine wp_tk (b := b2) (by simp [hi]) (by first | decide | omega) (by first | decide | omega) ?_
  intro r3 b3 r30 r31
  try simp [-Prod.forall, -Prod.exists, -Bool.exists_bool, -Bool.forall_bool, -getElem?_pos, At, List.getElem?_cons_zero, List.getElem?_cons_succ, get_l0, get_l1, get_l2, set_l0, set_l1, set_l2, hz]
  refine wp_tk (b := b3) (by simp [hi]) (by first | decide | omega) (by first | decide | omega) ?_
  intro r4 b4 r40 r41
  obtain ⟨m, hm, e⟩ := pick (l := [r1, r2, r3]) r40 (by simp; omega)
  have e : atI [AV.int r1, AV.int r2, AV.int r3] r4 = some (.int m) := e
  try simp [-Prod.forall, -Prod.exists, -Bool.exists_bool, -Bool.forall_bool, -getElem?_pos, At, List.getElem?_cons_zero, List.getElem?_cons_succ, get_l0, get_l1, get_l2, set_l0, set_l1, set_l2, e]
  have : 0 ≤ m ∧ m ≤ 1000000000000000000000000000000 := by
    simp at hm
    rcases hm with rfl | rfl | rfl <;> omega
  exact .set rfl rfl (q m b4 this.1 this.2)
theorem idxOf_of {l : List Int} {b : Nat} {m : Int} (h : l[b]? = some m) (h2 : ∀ j, j < b → l[j]? ≠ some m) : l.idxOf m = b := by
  have hm : m ∈ l := List.mem_of_getElem? h
  have hl := List.idxOf_lt_length_of_mem hm
  have e : l[l.idxOf m] = m := List.getElem_idxOf hl
  rcases Nat.lt_trichotomy (l.idxOf m) b with q | q | q
  · exact absurd (by rw [List.getElem?_eq_getElem hl, e]) (h2 _ q)
  · exact q
  · have k := List.not_of_lt_findIdx (p := (· == m)) (xs := l) (i := b) q
    obtain ⟨h3, h4⟩ := List.getElem?_eq_some_iff.1 h
    rw [h4] at k
    simp at k
theorem mostI_of {l : List Int} {m : Int} (h : m ∈ l) (h2 : ∀ x ∈ l, x ≤ m) : mostI l = some m := by
  cases e : mostI l with
  | none => rw [mostI_none e] at h; cases h
  | some i =>
    obtain ⟨h3, h4⟩ := mostI_ok e
    have := h4 m h
    have := h2 i h3
    congr 1
    omega
theorem mostI_some {l : List Int} (h : l ≠ []) : ∃ i ∈ l, mostI l = some i ∧ ∀ x ∈ l, x ≤ i := by
  cases e : mostI l with
  | none => exact absurd (mostI_none e) h
  | some i => exact ⟨i, (mostI_ok e).1, rfl, (mostI_ok e).2⟩
theorem leastI_some {l : List Int} (h : l ≠ []) : ∃ i ∈ l, leastI l = some i ∧ ∀ x ∈ l, i ≤ x := by
  cases e : leastI l with
  | none => exact absurd (leastI_none e) h
  | some i => exact ⟨i, (leastI_ok e).1, rfl, (leastI_ok e).2⟩
def pairA (p : Int × Int) : AV := .tup [.int p.1, .int p.2]
/-- things with their numbers -/
def numI (cs : List Int) : List (Int × Int) := cs.mapIdx fun k d => ((k : Int), d)
theorem num_av (cs : List Int) : ((cs.map AV.int).mapIdx fun (k : Nat) x => AV.tup [.int k, x]) = (numI cs).map pairA := by
  apply List.ext_getElem?
  intro i
  simp [numI, List.getElem?_mapIdx]
  cases cs[i]? <;> simp [pairA]
theorem num_get {cs : List Int} {k : Nat} {p : Int × Int} (h : (numI cs)[k]? = some p) : ∃ d, cs[k]? = some d ∧ p = ((k : Int), d) := by
  simp only [numI, List.getElem?_mapIdx] at h
  cases e : cs[k]? with
  | none => rw [e] at h; cases h
  | some d => rw [e] at h; cases h; exact ⟨d, rfl, rfl⟩
theorem mapIdx_take {α β : Type} (f : Nat → α → β) (l : List α) {k : Nat} {a : α} (h : l[k]? = some a) : (l.take (k + 1)).mapIdx f = (l.take k).mapIdx f ++ [f k a] := by
  rw [List.take_succ, h]
  have := lt_of_get h
  have e : (l.take k).length = k := by rw [List.length_take]; omega
  rw [List.mapIdx_append, e]
  simp
/-! a law's whole: each cell by itself -/
def LawOne (ns : List Int) (n : Nat) (w : St) : Prop := ∀ (k : Nat) (ρ : Ev) (S : Store) (M N : Ev → Store → Prop) (R : AV → Store → Prop), k ≤ 63 → ρ.length = n → ρ[0]? = some (some (.scr ns)) → ρ[1]? = some (some (.int k)) →
  (∀ ρ' S', ρ'.length = n → ρ'[0]? = some (some (.scr ns)) → M ρ' S') → ws (denS w ρ S) M R M N
theorem fin_all {S : Store} {r : AV} {Q : AV → Store → Prop} (h : r.noLoc = true) (q : Q r []) : Fin [] r S Q :=
  ⟨⟨Nat.zero_le _, fun i hi => absurd hi (Nat.not_lt_zero _)⟩, r, frz_of h, by simpa using q⟩
theorem law_main {ns : List Int} {n : Nat} {N : Int} {w : St} (hN : 0 ≤ N) (hN2 : N ≤ 62) (hn : 2 ≤ n) (one : LawOne ns n w) :
    ∃ S', mkFn false 1 n (.cons (.for (.n 1) (.it1 (.bin false .add (.c (.int 1)) (.prim false .min2 (.cons (.prim false .len (.cons (.v 0) .nil)) (.cons (.c (.int N)) .nil))))) w) (.cons (.ret (.c (.bl true))) .nil)) [.scr ns] [] = .ok (.bl true) S' := by
  have : wp (mkFn false 1 n (.cons (.for (.n 1) (.it1 (.bin false .add (.c (.int 1)) (.prim false .min2 (.cons (.prim false .len (.cons (.v 0) .nil)) (.cons (.c (.int N)) .nil))))) w) (.cons (.ret (.c (.bl true))) .nil)) [.scr ns] []) fun r _ => r = .bl true := by
    refine wp_fn rfl ?_
    have e0 : ∀ xs : Ev, (some (AV.scr ns) :: xs)[0]? = some (some (AV.scr ns)) := fun _ => rfl
    refine ws_seq (fun ρ S' => True) ?_ ?_
    · intro M hM
      try simp [-Prod.forall, -Prod.exists, -Bool.exists_bool, -Bool.forall_bool, -getElem?_pos, At, List.getElem?_cons_zero, List.getElem?_cons_succ, get_l0, get_l1, get_l2, set_l0, set_l1, set_l2]
      refine ⟨by split <;> omega, ?_⟩
      generalize hj : (1 + if N < (ns.length : Int) then N else (ns.length : Int)).toNat = j
      have hj' : j ≤ 63 := by rw [← hj]; split <;> omega
      refine wp_forE (fun (k : Nat) => AV.int k) (List.range j) (fun ρ S' => ρ.length = n ∧ ρ[0]? = some (some (.scr ns))) ⟨by simp; omega, rfl⟩ (fun _ _ _ => by simp) ?_ ?_
      · rintro k ρ S' hk ⟨hl, h0⟩ M2 hM2
        refine ⟨_, tg_n _ _ _, ?_⟩
        have := List.mem_range.1 hk
        exact one k _ _ _ _ _ (by omega) (by rw [List.length_set]; exact hl) (by rw [List.getElem?_set_ne (by decide)]; exact h0) (by rw [List.getElem?_set_self (by omega)]) fun ρ' S' a b => hM2 _ _ ⟨a, b⟩
      · exact fun ρ S' _ => hM _ _ trivial
    · intro ρ S' _
      try simp [-Prod.forall, -Prod.exists, -Bool.exists_bool, -Bool.forall_bool, -getElem?_pos, At, List.getElem?_cons_zero, List.getElem?_cons_succ, get_l0, get_l1, get_l2, set_l0, set_l1, set_l2]
      exact fin_all rfl rfl
  obtain ⟨a, S', e, rfl⟩ := this
  exact ⟨S', e⟩
end VI

set_option maxRecDepth 100000
/-! LN: how often in a span. -/
namespace VI
open PySem PySem.Spec PyProof.Rows L2
noncomputable def w_runs_up_to_0 : St := (.cons (.aug 4 .add (.prim false .max2 (.cons (.c (.int 0)) (.cons (.bin false .sub (.prim false .min2 (.cons (.v 6) (.cons (.v 10) .nil))) (.prim false .max2 (.cons (.v 5) (.cons (.v 9) .nil)))) .nil))))
    .nil)
noncomputable def b_runs_up_to : St :=
  (.cons (.asg (.tup (.cons (.n 5) (.cons (.n 6) .nil))) (.call (Str.ofString "places_of") d_places_of (.cons (.v 0) (.cons (.v 2) .nil))))
    (.cons (.asg (.tup (.cons (.n 7) (.cons (.n 8) .nil))) (.prim false .divmod (.cons (.bin false .add (.v 3) (.c (.int 1))) (.cons (.call (Str.ofString "length_of") d_length_of (.cons (.v 0) .nil)) .nil))))
    (.cons (.asg (.n 4) (.bin false .mul (.v 7) (.bin false .sub (.v 6) (.v 5))))
    (.cons (.for (.tup (.cons (.n 9) (.cons (.n 10) .nil))) (.itv (.tup (.cons (.tup (.cons (.v 1) (.cons (.bin false .add (.v 1) (.v 8)) .nil))) (.cons (.tup (.cons (.bin false .sub (.v 1) (.call (Str.ofString "length_of") d_length_of (.cons (.v 0) .nil))) (.cons (.bin false .add (.bin false .sub (.v 1) (.call (Str.ofString "length_of") d_length_of (.cons (.v 0) .nil))) (.v 8)) .nil))) .nil)))) w_runs_up_to_0)
    (.cons (.ret (.v 4))
    .nil)))))
noncomputable def d_runs_up_to : Fn := mkFn false 4 11 b_runs_up_to

noncomputable def b_runs_in : St :=
  (.cons (.ret (.bin false .sub (.call (Str.ofString "runs_up_to") d_runs_up_to (.cons (.v 0) (.cons (.v 1) (.cons (.v 2) (.cons (.v 4) .nil))))) (.call (Str.ofString "runs_up_to") d_runs_up_to (.cons (.v 0) (.cons (.v 1) (.cons (.v 2) (.cons (.v 3) .nil)))))))
    .nil)
noncomputable def d_runs_in : Fn := mkFn false 5 5 b_runs_in

/-- a walk over written things -/
theorem ws_f1 {t : Tg} {b : Ev → Store → OS} {a : AV} {r : List AV} {ρ ρ1 : Ev} {S : Store} {N : Ev → Store → Prop} {R : AV → Store → Prop} {C B : Ev → Store → Prop} (e : tgD t a ρ = some ρ1)
    (h : ∀ M : Ev → Store → Prop, (∀ ρ S, ws (forD t b [] r ρ S) N R C B → M ρ S) → ws (b ρ1 S) M R M N) : ws (forD t b [] (a :: r) ρ S) N R C B := by
  rw [forD, if_pos (by simp), e]
  have k := h (fun ρ S => ws (forD t b [] r ρ S) N R C B) fun _ _ q => q
  show ws (match b ρ1 S with | .nx ρ2 S2 => _ | .ct ρ2 S2 => _ | .bk ρ2 S2 => _ | o => o) N R C B
  cases e2 : b ρ1 S <;> rw [e2] at k <;> exact k
theorem ws_f0 {t : Tg} {b : Ev → Store → OS} {ρ : Ev} {S : Store} {N : Ev → Store → Prop} {R : AV → Store → Prop} {C B : Ev → Store → Prop} (h : N ρ S) : ws (forD t b [] [] ρ S) N R C B := by
  rw [forD, if_pos (by simp)]; exact h
theorem x_places (L : Line) {x : Bool × Int} (hx : x ∈ spanL (L.ps.length + 1)) (S : Store) : d_places_of [L.av, spA x] S = .ok (.tup [.int (begI L.H L.ps x), .int (finI L.H L.ps x)]) S :=
  ok_all fun Q q => wp_places L.ok (by decide) (mem_spanL hx) q
theorem span_bd (L : Line) {x : Bool × Int} (hx : x ∈ spanL (L.ps.length + 1)) : 0 ≤ begI L.H L.ps x ∧ begI L.H L.ps x < finI L.H L.ps x ∧ finI L.H L.ps x ≤ L.len := by
  obtain ⟨b, k⟩ := x
  obtain ⟨h0, h1⟩ := mem_spanL hx
  simp only at h0 h1
  have b1 := eI_bd L.ok (i := k.toNat) (by omega)
  have b2 := eI_bd L.ok (i := k.toNat + 1) (by omega)
  have lt := eI_lt L.ok (i := k.toNat) (j := k.toNat + 1) (by omega) (by omega)
  have eL : L.len = 2 * L.H := rfl
  cases b <;> simp only [begI, finI, if_true, Bool.false_eq_true, if_false] <;> omega
/-- how much of b .. e lies in f .. l -/
def ovl (b e f l : Int) : Int := if (if b < f then f else b) < (if l < e then l else e) then (if l < e then l else e) - (if b < f then f else b) else 0
/-- of x runs from 0 on those in b .. e -/
def upTo (L b e c x : Int) : Int := x / L * (e - b) + ovl b e c (c + x % L) + ovl b e (c - L) (c - L + x % L)
theorem x_runs_up_to (L : Line) {x : Bool × Int} (hx : x ∈ spanL (L.ps.length + 1)) (c r : Int) (h0 : 0 ≤ r) (h1 : r ≤ 10000000000000000000000000000000) (S : Store) :
    d_runs_up_to [L.av, .int c, spA x, .int r] S = .ok (.int (upTo L.len (begI L.H L.ps x) (finI L.H L.ps x) c (r + 1))) S := by
  have hL := L.pos
  have lm := L.lm
  obtain ⟨s0, s1, s2⟩ := span_bd L hx
  refine ok_all fun Q q => wp_fn rfl ?_
  unfold b_runs_up_to
  generalize hB : begI L.H L.ps x = b at *
  generalize hF : finI L.H L.ps x = e at *
  have q0 : 0 ≤ (r + 1) / L.len := Int.ediv_nonneg (by omega) (by omega)
  have q1 : (r + 1) / L.len ≤ r + 1 := Int.ediv_le_self _ (by omega)
  refine ws_cons fun M hM => ?_
  try simp [-Prod.forall, -Prod.exists, -Bool.exists_bool, -Bool.forall_bool, -getElem?_pos, At, List.getElem?_cons_zero, List.getElem?_cons_succ, get_l0, get_l1, get_l2, set_l0, set_l1, set_l2, x_places L hx, hB, hF]
  refine hM _ _ ?_
  refine ws_cons fun M hM => ?_
  try simp [-Prod.forall, -Prod.exists, -Bool.exists_bool, -Bool.forall_bool, -getElem?_pos, At, List.getElem?_cons_zero, List.getElem?_cons_succ, get_l0, get_l1, get_l2, set_l0, set_l1, set_l2, show L.len < 1073741824 by omega]
  refine hM _ _ ?_
  refine ws_cons fun M hM => ?_
  try simp [-Prod.forall, -Prod.exists, -Bool.exists_bool, -Bool.forall_bool, -getElem?_pos, At, List.getElem?_cons_zero, List.getElem?_cons_succ, get_l0, get_l1, get_l2, set_l0, set_l1, set_l2, fit_of (i := (r + 1) / L.len) q0 (Int.lt_of_le_of_lt (b := 10000000000000000000000000000001) (by omega) (by decide +kernel)), fitT (i := e - b) (by omega) (by omega)]
  refine hM _ _ ?_
  refine ws_cons fun M hM => ?_
  try simp [-Prod.forall, -Prod.exists, -Bool.exists_bool, -Bool.forall_bool, -getElem?_pos, At, List.getElem?_cons_zero, List.getElem?_cons_succ, get_l0, get_l1, get_l2, set_l0, set_l1, set_l2, hz]
  refine ws_f1 (tg_tup _ _ _ |>.trans (by rw [tgs_cons, tg_n]; rfl)) fun M1 hM1 => ?_
  try simp [-Prod.forall, -Prod.exists, -Bool.exists_bool, -Bool.forall_bool, -getElem?_pos, At, List.getElem?_cons_zero, List.getElem?_cons_succ, get_l0, get_l1, get_l2, set_l0, set_l1, set_l2, w_runs_up_to_0]
  refine hM1 _ _ ?_
  refine ws_f1 (tg_tup _ _ _ |>.trans (by rw [tgs_cons, tg_n]; rfl)) fun M1 hM1 => ?_
  try simp [-Prod.forall, -Prod.exists, -Bool.exists_bool, -Bool.forall_bool, -getElem?_pos, At, List.getElem?_cons_zero, List.getElem?_cons_succ, get_l0, get_l1, get_l2, set_l0, set_l1, set_l2, w_runs_up_to_0]
  refine hM1 _ _ (ws_f0 ?_)
  refine hM _ _ ?_
  try simp [-Prod.forall, -Prod.exists, -Bool.exists_bool, -Bool.forall_bool, -getElem?_pos, At, List.getElem?_cons_zero, List.getElem?_cons_succ, get_l0, get_l1, get_l2, set_l0, set_l1, set_l2]
  exact .pure rfl q
theorem x_runs_in (L : Line) {x : Bool × Int} (hx : x ∈ spanL (L.ps.length + 1)) (c f l : Int) (h0 : 0 ≤ f) (h1 : f ≤ 10000000000000000000000000000000) (h2 : 0 ≤ l) (h3 : l ≤ 10000000000000000000000000000000) (S : Store) :
    d_runs_in [L.av, .int c, spA x, .int f, .int l] S = .ok (.int (upTo L.len (begI L.H L.ps x) (finI L.H L.ps x) c (l + 1) - upTo L.len (begI L.H L.ps x) (finI L.H L.ps x) c (f + 1))) S := by
  refine ok_all fun Q q => wp_fn rfl ?_
  try simp [-Prod.forall, -Prod.exists, -Bool.exists_bool, -Bool.forall_bool, -getElem?_pos, At, List.getElem?_cons_zero, List.getElem?_cons_succ, get_l0, get_l1, get_l2, set_l0, set_l1, set_l2, b_runs_in, x_runs_up_to L hx c _ h0 h1, x_runs_up_to L hx c _ h2 h3]
  exact .pure rfl q
/-- one run more -/
theorem upTo_succ {L b e c x : Int} (h0 : 0 ≤ b) (h1 : b < e) (h2 : e ≤ L) (c0 : 0 ≤ c) (c1 : c < L) : upTo L b e c (x + 1) = upTo L b e c x + if b ≤ (c + x) % L ∧ (c + x) % L < e then 1 else 0 := by
  have hL : 0 < L := by omega
  have r0 := Int.emod_nonneg x (Int.ne_of_gt hL)
  have r1 := Int.emod_lt_of_pos x hL
  have ex := Int.mul_ediv_add_emod x L
  unfold upTo
  rw [div_succ hL, mod_succ hL]
  generalize hq : x / L = q at *
  generalize hr : x % L = r at *
  have em : (c + x) % L = if c + r < L then c + r else c + r - L := by
    split
    · exact mod_of (q := q) (by omega) (by omega) (by omega)
    · exact mod_of (q := q + 1) (by omega) (by omega) (by rw [Int.mul_add]; omega)
  rw [em]
  by_cases hc : r + 1 = L
  · rw [if_pos hc, if_pos rfl, Int.add_mul, Int.one_mul]
    unfold ovl
    split <;> split <;> (try split) <;> (try split) <;> omega
  · rw [if_neg hc, if_neg (by omega), Int.add_zero]
    unfold ovl
    omega
end VI

set_option maxRecDepth 100000
/-! LOA: buckets by their places: the order, the gaps. -/
namespace VI
open PySem PySem.Spec PyProof.Rows L2
/-! by their keys -/
/-- the places that are taken, from 0 on -/
def rowP (L : Int) (zs : List Int) : List Int := (rangeI L).filter fun p => decide (p ∈ zs)
theorem rangeI_pw (n : Int) : (rangeI n).Pairwise (· < ·) := by
  unfold rangeI
  refine List.pairwise_map.2 (List.pairwise_lt_range.imp fun h => ?_)
  omega
theorem rowP_pw (L : Int) (zs : List Int) : (rowP L zs).Pairwise (· < ·) := List.Pairwise.filter _ (rangeI_pw L)
theorem mem_rowP {L : Int} {zs : List Int} (rg : ∀ z ∈ zs, 0 ≤ z ∧ z < L) {p : Int} : p ∈ rowP L zs ↔ p ∈ zs := by
  unfold rowP
  rw [List.mem_filter, mem_rangeI]
  simp only [decide_eq_true_eq]
  exact ⟨fun h => h.2, fun h => ⟨rg p h, h⟩⟩
theorem idx_get {zs : List Int} {p : Int} (h : p ∈ zs) : zs.getD (zs.idxOf p) 0 = p := by
  have hl := List.idxOf_lt_length_of_mem h
  rw [List.getD_eq_getElem?_getD, List.getElem?_eq_getElem hl, List.getElem_idxOf]; rfl
theorem idx_at {zs : List Int} (nd : zs.Nodup) {a : Nat} (h : a < zs.length) : zs.idxOf (zs.getD a 0) = a := by
  rw [List.getD_eq_getElem?_getD, List.getElem?_eq_getElem h]
  refine idxOf_of (List.getElem?_eq_getElem h) fun j hj e => ?_
  obtain ⟨h1, h2⟩ := List.getElem?_eq_some_iff.mp e
  exact Nat.ne_of_lt hj ((List.getElem_inj nd).1 h2)
theorem sort_by {L : Int} {zs : List Int} (nd : zs.Nodup) (rg : ∀ z ∈ zs, 0 ≤ z ∧ z < L) :
    (List.range zs.length).mergeSort (fun a b => decide (zs.getD a 0 ≤ zs.getD b 0)) = (rowP L zs).map fun p => zs.idxOf p := by
  have hm : ∀ a, a ∈ (List.range zs.length).mergeSort (fun a b => decide (zs.getD a 0 ≤ zs.getD b 0)) ↔ a < zs.length := fun a => by
    rw [(List.mergeSort_perm _ _).mem_iff, List.mem_range]
  have pw := List.pairwise_mergeSort (le := fun a b => decide (zs.getD a 0 ≤ zs.getD b 0)) (fun a b c => by simp only [decide_eq_true_eq]; omega) (fun a b => by simp only [Bool.or_eq_true, decide_eq_true_eq]; omega) (List.range zs.length)
  have pr : ((rowP L zs).map fun p => zs.idxOf p).Pairwise fun a b => zs.getD a 0 < zs.getD b 0 := by
    refine List.pairwise_map.2 (List.Pairwise.imp_of_mem (fun {p q} hp hq h => ?_) (rowP_pw L zs))
    rw [idx_get ((mem_rowP rg).1 hp), idx_get ((mem_rowP rg).1 hq)]
    exact h
  refine List.Perm.eq_of_pairwise (le := fun a b => decide (zs.getD a 0 ≤ zs.getD b 0) = true) (fun a b ha hb h1 h2 => ?_) pw (pr.imp fun h => by simp only [decide_eq_true_eq]; omega) ((List.perm_ext_iff_of_nodup ?_ (pr.imp fun h e => by subst e; omega)).2 fun a => ?_)
  · simp only [decide_eq_true_eq] at h1 h2
    have e : zs.getD a 0 = zs.getD b 0 := by omega
    have h3 := idx_at nd ((hm a).1 ha)
    have h4 : b < zs.length := by
      obtain ⟨p, hp, rfl⟩ := List.mem_map.1 hb
      exact List.idxOf_lt_length_of_mem ((mem_rowP rg).1 hp)
    rw [e, idx_at nd h4] at h3
    exact h3.symm
  · exact (List.mergeSort_perm _ _).nodup_iff.2 List.nodup_range
  · rw [hm]
    constructor
    · intro h
      refine List.mem_map.2 ⟨zs.getD a 0, (mem_rowP rg).2 ?_, idx_at nd h⟩
      rw [List.getD_eq_getElem?_getD, List.getElem?_eq_getElem h]
      exact List.getElem_mem h
    · intro h
      obtain ⟨p, hp, rfl⟩ := List.mem_map.1 h
      exact List.idxOf_lt_length_of_mem ((mem_rowP rg).1 hp)
theorem sortBy_eq {L : Int} {zs : List Int} (nd : zs.Nodup) (rg : ∀ z ∈ zs, 0 ≤ z ∧ z < L) : sortBy zs = (rowP L zs).map fun p => AV.int (zs.idxOf p : Nat) := by
  unfold sortBy
  rw [PySem.W.dataLe_int, sort_by nd rg, List.map_map]
  rfl
/-! gaps -/
/-- how far from p to the next taken place -/
structure IsGap (zs : List Int) (L p g : Int) : Prop where
  pos : 1 ≤ g
  on : (p + g) % L ∈ zs
  no : ∀ f, 1 ≤ f → f < g → (p + f) % L ∉ zs
theorem IsGap.one {zs : List Int} {L p g k : Int} (h : IsGap zs L p g) (i : IsGap zs L p k) : g = k := by
  rcases Int.lt_trichotomy g k with q | q | q
  · exact absurd h.on (i.no g h.pos q)
  · exact q
  · exact absurd i.on (h.no k i.pos q)
open Classical in
noncomputable def gapF (zs : List Int) (L p : Int) : Int := if h : ∃ g, IsGap zs L p g then Classical.choose h else 0
theorem gapF_eq {zs : List Int} {L p g : Int} (h : IsGap zs L p g) : gapF zs L p = g := by
  have q : ∃ g, IsGap zs L p g := ⟨g, h⟩
  unfold gapF
  rw [dif_pos q]
  exact (Classical.choose_spec q).one h
/-- from each to the next, from the last to f -/
def gapsR (f : Int) : List Int → List Int
  | [] => []
  | p :: r => (r.headD f - p) :: gapsR f r
theorem gap_at {L : Int} {zs : List Int} (rg : ∀ z ∈ zs, 0 ≤ z ∧ z < L) {pre r : List Int} {p : Int} (e : rowP L zs = pre ++ p :: r) : IsGap zs L p (r.headD ((rowP L zs).headD 0 + L) - p) := by
  have pw := rowP_pw L zs
  have mem : ∀ x, x ∈ zs ↔ x ∈ pre ∨ x = p ∨ x ∈ r := fun x => by rw [← mem_rowP rg, e]; simp
  rw [e] at pw
  obtain ⟨_, pw2, pw3⟩ := List.pairwise_append.1 pw
  obtain ⟨pr, _⟩ := List.pairwise_cons.1 pw2
  have hp := rg p ((mem p).2 (.inr (.inl rfl)))
  have L0 : 0 < L := by omega
  cases r with
  | cons q r =>
    have hq := rg q ((mem q).2 (.inr (.inr (.head _))))
    have pq := pr q (.head _)
    refine ⟨by simp; omega, ?_, fun f h1 h2 hf => ?_⟩
    · simp only [List.headD_cons]
      rw [show p + (q - p) = q by omega, Int.emod_eq_of_lt hq.1 hq.2]
      exact (mem q).2 (.inr (.inr (.head _)))
    · simp only [List.headD_cons] at h2
      rw [Int.emod_eq_of_lt (by omega) (by omega)] at hf
      rcases (mem _).1 hf with z | z | z
      · have := pw3 _ z p (.head _); omega
      · omega
      · have := (List.pairwise_cons.1 pw2).2
        rcases List.mem_cons.1 z with z | z
        · omega
        · have := (List.pairwise_cons.1 this).1 _ z; omega
  | nil =>
    have hd : ∃ a l, rowP L zs = a :: l ∧ a ∈ zs ∧ (∀ x ∈ zs, a ≤ x) := by
      cases pre with
      | nil => exact ⟨p, [], e, (mem p).2 (.inr (.inl rfl)), fun x hx => by
        rcases (mem x).1 hx with z | z | z
        · cases z
        · omega
        · cases z⟩
      | cons a l =>
        refine ⟨a, l ++ [p], e, (mem a).2 (.inl (.head _)), fun x hx => ?_⟩
        have h1 := (List.pairwise_cons.1 pw).1
        rcases (mem x).1 hx with z | z | z
        · rcases List.mem_cons.1 z with z | z
          · omega
          · have := h1 x (List.mem_append_left _ z); omega
        · have := h1 x (List.mem_append_right _ (by rw [z]; exact .head _)); omega
        · cases z
    obtain ⟨a, l, ea, ha, la⟩ := hd
    have h0 := rg a ha
    have hap := la p ((mem p).2 (.inr (.inl rfl)))
    rw [ea]
    simp only [List.headD_nil, List.headD_cons]
    refine ⟨by omega, ?_, fun f h1 h2 hf => ?_⟩
    · rw [show p + (a + L - p) = a + L by omega, Int.add_emod_right, Int.emod_eq_of_lt h0.1 h0.2]
      exact ha
    · by_cases hw : p + f < L
      · rw [Int.emod_eq_of_lt (by omega) hw] at hf
        rcases (mem _).1 hf with z | z | z
        · have := pw3 _ z p (.head _); omega
        · omega
        · cases z
      · have e2 : (p + f) % L = p + f - L := by
          rw [show p + f = (p + f - L) + L by omega, Int.add_emod_right, Int.emod_eq_of_lt (by omega) (by omega)]; omega
        rw [e2] at hf
        have := la _ hf
        omega
theorem row_gaps {L : Int} {zs : List Int} (rg : ∀ z ∈ zs, 0 ≤ z ∧ z < L) : (rowP L zs).map (gapF zs L) = gapsR ((rowP L zs).headD 0 + L) (rowP L zs) := by
  have key : ∀ (r pre : List Int), rowP L zs = pre ++ r → r.map (gapF zs L) = gapsR ((rowP L zs).headD 0 + L) r := by
    intro r
    induction r with
    | nil => intro _ _; rfl
    | cons p r ih =>
      intro pre e
      rw [List.map_cons, gapsR, gapF_eq (gap_at rg e), ih (pre ++ [p]) (by rw [e]; simp)]
  exact key _ [] rfl
theorem gapsR_eq (f : Int) : ∀ (p : Int) (r : List Int), gapsR f (p :: r) = ((List.range r.length).map fun k => (p :: r).getD (k + 1) 0 - (p :: r).getD k 0) ++ [f - (p :: r).getLast (by simp)]
  | p, [] => by simp [gapsR]
  | p, q :: r => by
    rw [gapsR, gapsR_eq f q r, List.length_cons, List.range_succ_eq_map, List.map_cons, List.map_map, List.cons_append, List.getLast_cons (List.cons_ne_nil q r)]
    rfl
theorem gapsR_sum (f : Int) : ∀ (p : Int) (r : List Int), (gapsR f (p :: r)).sum = f - p
  | p, [] => by simp [gapsR]
  | p, q :: r => by
    rw [gapsR, List.sum_cons, gapsR_sum f q r, List.headD_cons]
    omega
end VI

set_option maxRecDepth 100000
/-! LOB: order_at, gaps_at. -/
namespace VI
open PySem PySem.Spec PyProof.Rows L2
noncomputable def n_order_at : E := (.prim false .len (.cons (.v 1) .nil))
noncomputable def m_order_at : E := (.call (Str.ofString "place_at") d_place_at (.cons (.v 0) (.cons (.ix (.v 1) (.v 3)) (.cons (.v 2) .nil))))
noncomputable def d_order_at : Fn := sortFn (Str.ofString "order_at") 3 (den n_order_at) (den m_order_at)

noncomputable def c_gaps_at_0 : E := (.comp false [6] (.n 6) (.it1 (.bin false .sub (.prim false .len (.cons (.v 3) .nil)) (.c (.int 1)))) (.bin false .sub (.ix (.v 3) (.bin false .add (.v 6) (.c (.int 1)))) (.ix (.v 3) (.v 6))) .nop)
noncomputable def c_gaps_at_1 : E := (.comp false [5] (.n 5) (.itv (.call (Str.ofString "order_at") d_order_at (.cons (.v 0) (.cons (.v 1) (.cons (.v 2) .nil))))) (.call (Str.ofString "place_at") d_place_at (.cons (.v 0) (.cons (.ix (.v 1) (.v 5)) (.cons (.v 2) .nil)))) .nop)
noncomputable def b_gaps_at : St :=
  (.cons (.asg (.n 3) c_gaps_at_1)
    (.cons (.asg (.n 4) c_gaps_at_0)
    (.cons (.ret (.prim false .tuple (.cons (.bin false .add (.v 4) (.lst false (.cons (.bin false .sub (.bin false .add (.ix (.v 3) (.c (.int 0))) (.call (Str.ofString "length_of") d_length_of (.cons (.v 0) .nil))) (.ix (.v 3) (.neg (.c (.int 1))))) .nil))) .nil)))
    .nil)))
noncomputable def d_gaps_at : Fn := mkFn false 3 7 b_gaps_at

/-- the table of order_at stands first -/
def Tb (S : Store) : Prop := S[0]? = some (AObj.tab (Str.ofString "order_at"))
theorem Tb.has {S : Store} (h : Tb S) : hasTab (Str.ofString "order_at") S := ⟨0, h⟩
theorem Tb.app {S : Store} (h : Tb S) (T : Store) : Tb (S ++ T) := by
  have := lt_of_get h
  show (S ++ T)[0]? = _
  rw [List.getElem?_append_left this]; exact h
theorem Tb.pos {S : Store} (h : Tb S) : 0 < S.length := lt_of_get h
theorem Tb.set {S : Store} (h : Tb S) {i : Nat} {o : AObj} (hi : 0 < i) : Tb (S.set i o) := by
  show (S.set i o)[0]? = _
  rw [List.getElem?_set_ne (Nat.ne_of_gt hi)]; exact h
/-- the places of the buckets then -/
def zsOf (L : Line) (C : Clips L.len) (r : Int) : List Int := C.cs.map fun c => (c + r) % L.len
theorem zs_len (L : Line) (C : Clips L.len) (r : Int) : (zsOf L C r).length = C.cs.length := by simp [zsOf]
theorem zs_rg (L : Line) (C : Clips L.len) (r : Int) : ∀ z ∈ zsOf L C r, 0 ≤ z ∧ z < L.len := fun z hz => by
  obtain ⟨c, _, rfl⟩ := List.mem_map.1 hz
  exact ⟨Int.emod_nonneg _ (Int.ne_of_gt L.pos), Int.emod_lt_of_pos _ L.pos⟩
theorem mod_inj {L c d r : Int} (c0 : 0 ≤ c) (c1 : c < L) (d0 : 0 ≤ d) (d1 : d < L) (h : (c + r) % L = (d + r) % L) : c = d := by
  have h1 := Int.emod_add_mul_ediv (c + r) L
  have h2 := Int.emod_add_mul_ediv (d + r) L
  rw [h] at h1
  generalize (c + r) / L = x at *
  generalize (d + r) / L = y at *
  generalize (d + r) % L = m at *
  have e : c - d = L * (x - y) := by rw [Int.mul_sub]; omega
  have e3 : x - y = 0 := by
    rcases Int.lt_trichotomy (x - y) 0 with q | q | q
    · have := Int.mul_le_mul_of_nonneg_left (show x - y ≤ -1 by omega) (show 0 ≤ L by omega); omega
    · exact q
    · have := Int.mul_le_mul_of_nonneg_left (show 1 ≤ x - y by omega) (show 0 ≤ L by omega); omega
  rw [e3] at e; omega
theorem zs_nd (L : Line) (C : Clips L.len) (r : Int) : (zsOf L C r).Nodup := by
  refine List.pairwise_map.2 (List.Pairwise.imp_of_mem (fun {c d} hc hd h e => h ?_) C.nd)
  exact mod_inj (C.rg c hc).1 (C.rg c hc).2 (C.rg d hd).1 (C.rg d hd).2 e
theorem zs_at {L : Line} {C : Clips L.len} {r z : Int} {i : Nat} (h : (zsOf L C r)[i]? = some z) : ∃ c, C.cs[i]? = some c ∧ z = (c + r) % L.len := by
  simp only [zsOf, List.getElem?_map] at h
  cases e : C.cs[i]? with
  | none => rw [e] at h; cases h
  | some c => rw [e] at h; cases h; exact ⟨c, rfl, rfl⟩
theorem ix_c {L : Int} (C : Clips L) {i : Nat} {c : Int} (h : C.cs[i]? = some c) (S : Store) : ixD C.av (.int i) S = .ok (.int c) S := by
  have hl := lt_of_get h
  have : atI (C.cs.map AV.int) (i : Int) = some (.int c) := by
    rw [atI_in (by omega) (by simp; exact hl)]
    have := (List.getElem?_eq_some_iff.mp h).2
    simp [this]
  simp [Clips.av, ixD, itemsOf, this]
theorem x_order (L : Line) (C : Clips L.len) (r : Int) {S : Store} (h : Tb S) : d_order_at [L.av, C.av, .int r] S = .ok (.tup ((rowP L.len (zsOf L C r)).map fun p => .int ((zsOf L C r).idxOf p : Nat))) S := by
  have e1 : den n_order_at [some L.av, some C.av, some (.int r)] S = .ok (.int C.cs.length) S := ok_all fun Q q => by
    try simp [-Prod.forall, -Prod.exists, -Bool.exists_bool, -Bool.forall_bool, -getElem?_pos, At, List.getElem?_cons_zero, List.getElem?_cons_succ, get_l0, get_l1, get_l2, set_l0, set_l1, set_l2, n_order_at]
    exact q
  have e2 : ∀ (i : Nat) z, (zsOf L C r)[i]? = some z → den m_order_at ([some L.av, some C.av, some (.int r)] ++ [some (.int i)]) S = .ok (.int z) S := fun i z hz => ok_all fun Q q => by
    obtain ⟨c, hc, rfl⟩ := zs_at hz
    try simp [-Prod.forall, -Prod.exists, -Bool.exists_bool, -Bool.forall_bool, -getElem?_pos, At, List.getElem?_cons_zero, List.getElem?_cons_succ, get_l0, get_l1, get_l2, set_l0, set_l1, set_l2, m_order_at, ix_c C hc, x_place_at]
    exact q
  have e3 := keysD_of e2
  have l12 := C.l12
  unfold d_order_at sortFn
  rw [if_pos ⟨rfl, h.has⟩]
  show (sortLamD _ _ _ [some L.av, some C.av, some (.int r)] S).bd _ = _
  unfold sortLamD
  rw [e1, bd_ok]
  unfold sortTail
  simp only []
  rw [if_pos ⟨h.has, by omega, by omega⟩, Int.toNat_natCast, ← zs_len L C r, e3, optD_some, bd_ok, sortBy_eq (zs_nd L C r) (zs_rg L C r)]
theorem row_ne (L : Line) (C : Clips L.len) (r : Int) : rowP L.len (zsOf L C r) ≠ [] := fun e => by
  have h : (C.hd + r) % L.len ∈ rowP L.len (zsOf L C r) := (mem_rowP (zs_rg L C r)).2 (List.mem_map.2 ⟨_, C.hd_mem, rfl⟩)
  rw [e] at h; cases h
theorem row_len (L : Line) (C : Clips L.len) (r : Int) : (rowP L.len (zsOf L C r)).length ≤ 12 := by
  have e := congrArg List.length (sort_by (zs_nd L C r) (zs_rg L C r))
  rw [List.length_map, List.length_mergeSort, List.length_range, zs_len] at e
  have := C.l12
  omega
theorem atI_last (p : Int) (rs : List Int) : atI (AV.int p :: rs.map AV.int) (-1) = some (.int ((p :: rs).getLast (by simp))) := by
  have e : ixN (AV.int p :: rs.map AV.int).length (-1) = some rs.length := by
    unfold ixN
    rw [if_neg (by decide), if_pos (by simp; omega)]
    simp
    omega
  unfold atI
  rw [e, List.getLast_eq_getElem]
  show ((p :: rs).map AV.int)[rs.length]? = _
  rw [List.getElem?_map, List.getElem?_eq_getElem (by simp)]
  simp
theorem x_gaps (L : Line) (C : Clips L.len) (r : Int) {S : Store} (h : Tb S) : d_gaps_at [L.av, C.av, .int r] S = .ok (.tup ((gapsR ((rowP L.len (zsOf L C r)).headD 0 + L.len) (rowP L.len (zsOf L C r))).map .int)) S := by
  have ho := x_order L C r h
  have rg := zs_rg L C r
  have hz : ∀ p ∈ rowP L.len (zsOf L C r), ∃ c, C.cs[(zsOf L C r).idxOf p]? = some c ∧ p = (c + r) % L.len := fun p hp => by
    have hm := (mem_rowP rg).1 hp
    have hl := List.idxOf_lt_length_of_mem hm
    refine zs_at (z := p) ?_
    rw [List.getElem?_eq_getElem hl, List.getElem_idxOf]
  have hne := row_ne L C r
  have hlen := row_len L C r
  generalize rowP L.len (zsOf L C r) = row at *
  have hc1 : den c_gaps_at_1 [some L.av, some C.av, some (.int r), none, none, none, none] S = .ok (.lst (row.map .int)) S := by
    refine ok_all fun Q q => ?_
    try simp [-Prod.forall, -Prod.exists, -Bool.exists_bool, -Bool.forall_bool, -getElem?_pos, At, List.getElem?_cons_zero, List.getElem?_cons_succ, get_l0, get_l1, get_l2, set_l0, set_l1, set_l2, c_gaps_at_1, ho]
    rw [comp_pure (fun p => AV.int ((zsOf L C r).idxOf p : Nat)) (fun _ => true) (fun p => AV.int p) (by simp) row (sizeL (by omega)) fun p hp => ?_]
    · refine ⟨_, _, rfl, ?_⟩
      rw [List.filter_eq_self.2 fun _ _ => rfl]
      exact q
    · obtain ⟨c, hc, e⟩ := hz p hp
      refine ⟨_, tg_n _ _ _, ?_⟩
      try simp [-Prod.forall, -Prod.exists, -Bool.exists_bool, -Bool.forall_bool, -getElem?_pos, At, List.getElem?_cons_zero, List.getElem?_cons_succ, get_l0, get_l1, get_l2, set_l0, set_l1, set_l2, ix_c C hc, x_place_at, cdD, E.isNop]
      exact e.symm
  cases row with
  | nil => exact absurd rfl hne
  | cons p rs =>
  refine ok_all fun Q q => wp_fn rfl ?_
  show ws (denS b_gaps_at [some L.av, some C.av, some (.int r), none, none, none, none] S) _ _ _ _
  unfold b_gaps_at
  with_reducible refine ws_cons fun M hM => ?_
  try simp [-Prod.forall, -Prod.exists, -Bool.exists_bool, -Bool.forall_bool, -getElem?_pos, At, List.getElem?_cons_zero, List.getElem?_cons_succ, get_l0, get_l1, get_l2, set_l0, set_l1, set_l2, hc1]
  refine hM _ _ ?_
  with_reducible refine ws_cons fun M hM => ?_
  try simp [-Prod.forall, -Prod.exists, -Bool.exists_bool, -Bool.forall_bool, -getElem?_pos, At, List.getElem?_cons_zero, List.getElem?_cons_succ, get_l0, get_l1, get_l2, set_l0, set_l1, set_l2, c_gaps_at_0]
  refine ⟨by simp at hlen; omega, ?_⟩
  rw [comp_pure (fun (k : Nat) => AV.int k) (fun _ => true) (fun k => AV.int ((p :: rs).getD (k + 1) 0 - (p :: rs).getD k 0)) (by simp) (List.range rs.length) (sizeL (by simp at hlen ⊢; omega)) fun k hk => ?_]
  · refine ⟨_, _, rfl, ?_⟩
    rw [List.filter_eq_self.2 fun _ _ => rfl]
    refine hM _ _ ?_
    with_reducible refine ws_cons fun M hM => ?_
    try simp [-Prod.forall, -Prod.exists, -Bool.exists_bool, -Bool.forall_bool, -getElem?_pos, At, List.getElem?_cons_zero, List.getElem?_cons_succ, get_l0, get_l1, get_l2, set_l0, set_l1, set_l2, atI_last]
    refine ⟨sizeL (by omega), sizeL (by simp at hlen; omega), ?_⟩
    have e : (AV.tup (List.map (fun k => AV.int (rs[k]?.getD 0 - (p :: rs)[k]?.getD 0)) (List.range rs.length) ++ [AV.int (p + L.len - (p :: rs).getLast (by simp))])) = .tup ((gapsR (p + L.len) (p :: rs)).map .int) := by
      rw [gapsR_eq, List.map_append, List.map_map]
      simp [Function.comp_def]
    rw [List.headD_cons] at q
    rw [e]
    exact .pure (nl_tup.2 (by simp)) q
  · have hk := List.mem_range.1 hk
    refine ⟨_, tg_n _ _ _, ?_⟩
    have a1 : atI (AV.int p :: rs.map AV.int) ((k : Int) + 1) = some (.int rs[k]) := by
      have := atI_in (l := AV.int p :: rs.map AV.int) (i := (k : Int) + 1) (by omega) (by simp; omega)
      rw [this]
      have e : ((k : Int) + 1).toNat = k + 1 := by omega
      simp [e]
    have a0 : atI (AV.int p :: rs.map AV.int) (k : Int) = some (.int ((p :: rs)[k]'(by simp; omega))) := by
      have := atI_in (l := AV.int p :: rs.map AV.int) (i := (k : Int)) (by omega) (by simp; omega)
      rw [this]
      cases k <;> simp
    try simp [-Prod.forall, -Prod.exists, -Bool.exists_bool, -Bool.forall_bool, -getElem?_pos, At, List.getElem?_cons_zero, List.getElem?_cons_succ, get_l0, get_l1, get_l2, set_l0, set_l1, set_l2, cdD, E.isNop, a1, a0]
    have e0 : (p :: rs)[k]? = some ((p :: rs)[k]'(by simp; omega)) := List.getElem?_eq_getElem _
    simp [hk, e0]
end VI

set_option maxRecDepth 100000
/-! LOC: whole rounds: who comes when, the spans together. -/
namespace VI
open PySem PySem.Spec PyProof.Rows L2
noncomputable def b_law_comes_right : St :=
  (.cons (.asg (.n 5) (.bin false .mul (.c (.int 2)) (.ix (.v 0) (.c (.int 0)))))
    (.cons (.asg (.n 6) (.bin false .add (.v 3) (.bin false .mul (.v 4) (.v 5))))
    (.cons (.asg (.n 7) (.call (Str.ofString "next_pass") d_next_pass (.cons (.v 0) (.cons (.v 1) (.cons (.v 2) (.cons (.v 3) .nil))))))
    (.cons (.ifs (.or (.not (.chain .lt .le (.v 3) (.v 7) (.bin false .add (.v 3) (.v 5)))) (.cmp .ne (.call (Str.ofString "place_at") d_place_at (.cons (.v 0) (.cons (.v 1) (.cons (.v 7) .nil)))) (.v 2))) (.cons (.ret (.c (.bl false)))
    .nil) .nil)
    (.cons (.ifs (.or (.cmp .ne (.call (Str.ofString "passes") d_passes (.cons (.v 0) (.cons (.v 1) (.cons (.v 2) (.cons (.v 3) (.cons (.v 6) .nil)))))) (.v 4)) (.cmp .ne (.call (Str.ofString "passes") d_passes (.cons (.v 0) (.cons (.v 1) (.cons (.v 2) (.cons (.v 3) (.cons (.v 7) .nil)))))) (.c (.int 1)))) (.cons (.ret (.c (.bl false)))
    .nil) .nil)
    (.cons (.ifs (.and (.cmp .gt (.v 7) (.bin false .add (.v 3) (.c (.int 1)))) (.cmp .ne (.call (Str.ofString "passes") d_passes (.cons (.v 0) (.cons (.v 1) (.cons (.v 2) (.cons (.v 3) (.cons (.bin false .sub (.v 7) (.c (.int 1))) .nil)))))) (.c (.int 0)))) (.cons (.ret (.c (.bl false)))
    .nil) .nil)
    (.cons (.ret (.cmp .eq (.call (Str.ofString "passes") d_passes (.cons (.v 0) (.cons (.v 1) (.cons (.v 2) (.cons (.v 3) (.cons (.v 3) .nil)))))) (.c (.int 0))))
    .nil)))))))
noncomputable def d_law_comes_right : Fn := mkFn false 5 8 b_law_comes_right

noncomputable def w_law_within_right_0 : St := (.cons (.asg (.n 10) (.tup (.cons (.v 6) (.cons (.v 7) .nil))))
    (.cons (.ifs (.cmp .ne (.call (Str.ofString "runs_in") d_runs_in (.cons (.v 0) (.cons (.v 1) (.cons (.v 10) (.cons (.v 2) (.cons (.bin false .add (.v 2) (.bin false .mul (.bin false .mul (.v 3) (.c (.int 2))) (.ix (.v 0) (.c (.int 0))))) .nil)))))) (.bin false .mul (.v 3) (.bin false .sub (.v 9) (.v 8)))) (.cons (.ret (.c (.bl false)))
    .nil) .nil)
    (.cons (.asg (.n 5) (.bin false .add (.v 5) (.call (Str.ofString "runs_in") d_runs_in (.cons (.v 0) (.cons (.v 1) (.cons (.v 10) (.cons (.v 2) (.cons (.v 4) .nil))))))))
    .nil)))
noncomputable def b_law_within_right : St :=
  (.cons (.asg (.n 5) (.c (.int 0)))
    (.cons (.for (.tup (.cons (.n 6) (.cons (.n 7) (.cons (.n 8) (.cons (.n 9) .nil))))) (.itv (.call (Str.ofString "_law_spans") d_law_spans (.cons (.v 0) .nil))) w_law_within_right_0)
    (.cons (.ret (.cmp .eq (.v 5) (.bin false .sub (.v 4) (.v 2))))
    .nil)))
noncomputable def d_law_within_right : Fn := mkFn false 5 11 b_law_within_right

/-! who comes when -/
theorem next_lt {L d r : Int} (h : 0 < L) : r < nextP L d r ∧ nextP L d r ≤ r + L := by
  have h1 := Int.emod_nonneg (r + d) (Int.ne_of_gt h)
  have h2 := Int.emod_lt_of_pos (r + d) h
  unfold nextP
  omega
theorem next_at {L c p r : Int} (h : 0 < L) (p0 : 0 ≤ p) (p1 : p < L) : (c + nextP L (c - p) r) % L = p := by
  have e := nextP_mul (L := L) (d := c - p) (r := r)
  exact mod_of (q := (r + (c - p)) / L + 1) p0 p1 (by omega)
theorem pass_rounds {L d r n : Int} (h : 0 < L) : passN L d r (r + n * L) = n := by
  unfold passN
  rw [show r + n * L + d = (r + d) + L * n by rw [Int.mul_comm n L]; omega, div_add_mul h]
  omega
theorem pass_next {L d r : Int} (h : 0 < L) : passN L d r (nextP L d r) = 1 := by
  have e := nextP_mul (L := L) (d := d) (r := r)
  unfold passN
  rw [div_of (L := L) (x := nextP L d r + d) (q := (r + d) / L + 1) (r := 0) (by omega) h (by omega)]
  omega
theorem pass_prev {L d r : Int} (h : 0 < L) : passN L d r (nextP L d r - 1) = 0 := by
  have e := nextP_mul (L := L) (d := d) (r := r)
  have e2 : L * ((r + d) / L + 1) = L * ((r + d) / L) + L := by rw [Int.mul_add]; omega
  unfold passN
  rw [div_of (L := L) (x := nextP L d r - 1 + d) (q := (r + d) / L) (r := L - 1) (by omega) (by omega) (by omega)]
  omega
theorem pass_self (L d r : Int) : passN L d r r = 0 := by unfold passN; omega
/-- bounds of rounds -/
theorem fitR {n : Int} (h0 : 0 ≤ n) (h : n ≤ 1000000000000000000000000000000) : Fit n := fitT h0 (by omega)
theorem x_comes (L : Line) {c p r n : Int} (p0 : 0 ≤ p) (p1 : p < L.len) (r0 : 0 ≤ r) (n0 : 0 ≤ n) (n1 : n ≤ 1000000000) (S : Store) : d_law_comes_right [L.av, .int c, .int p, .int r, .int n] S = .ok (.bl true) S := by
  have hL := L.pos
  have nx := next_lt (d := c - p) (r := r) hL
  have le : r ≤ r + n * L.len := by have := Int.mul_nonneg n0 (show 0 ≤ L.len by omega); omega
  refine ok_all fun Q q => wp_fn rfl ?_
  show ws (denS b_law_comes_right [some L.av, some (.int c), some (.int p), some (.int r), some (.int n), none, none, none] S) _ _ _ _
  unfold b_law_comes_right
  with_reducible refine ws_cons fun M hM => ?_
  try simp [-Prod.forall, -Prod.exists, -Bool.exists_bool, -Bool.forall_bool, -getElem?_pos, At, List.getElem?_cons_zero, List.getElem?_cons_succ, get_l0, get_l1, get_l2, set_l0, set_l1, set_l2]
  refine hM _ _ ?_
  with_reducible refine ws_cons fun M hM => ?_
  try simp [-Prod.forall, -Prod.exists, -Bool.exists_bool, -Bool.forall_bool, -getElem?_pos, At, List.getElem?_cons_zero, List.getElem?_cons_succ, get_l0, get_l1, get_l2, set_l0, set_l1, set_l2, fitR n0 (by omega)]
  refine hM _ _ ?_
  with_reducible refine ws_cons fun M hM => ?_
  try simp [-Prod.forall, -Prod.exists, -Bool.exists_bool, -Bool.forall_bool, -getElem?_pos, At, List.getElem?_cons_zero, List.getElem?_cons_succ, get_l0, get_l1, get_l2, set_l0, set_l1, set_l2, x_next_pass]
  refine hM _ _ ?_
  with_reducible refine ws_cons fun M hM => ?_
  have k1 := x_passes L c p r (r + n * L.len) S le
  have k2 := x_passes L c p r (nextP L.len (c - p) r) S (by omega)
  have k3 := x_passes L c p r (nextP L.len (c - p) r - 1) S (by omega)
  have k4 := x_passes L c p r r S (by omega)
  rw [pass_rounds hL] at k1
  rw [pass_next hL] at k2
  rw [pass_prev hL] at k3
  rw [pass_self] at k4
  have k5 := x_place_at L c (nextP L.len (c - p) r) S
  rw [next_at hL p0 p1] at k5
  generalize nextP L.len (c - p) r = due at *
  try simp [-Prod.forall, -Prod.exists, -Bool.exists_bool, -Bool.forall_bool, -getElem?_pos, At, List.getElem?_cons_zero, List.getElem?_cons_succ, get_l0, get_l1, get_l2, set_l0, set_l1, set_l2, nx.1, nx.2, k5]
  refine hM _ _ ?_
  with_reducible refine ws_cons fun M hM => ?_
  try simp [-Prod.forall, -Prod.exists, -Bool.exists_bool, -Bool.forall_bool, -getElem?_pos, At, List.getElem?_cons_zero, List.getElem?_cons_succ, get_l0, get_l1, get_l2, set_l0, set_l1, set_l2, k1, k2]
  refine hM _ _ ?_
  with_reducible refine ws_cons fun M hM => ?_
  try simp [-Prod.forall, -Prod.exists, -Bool.exists_bool, -Bool.forall_bool, -getElem?_pos, At, List.getElem?_cons_zero, List.getElem?_cons_succ, get_l0, get_l1, get_l2, set_l0, set_l1, set_l2, k3]
  have fin : M [some L.av, some (.int c), some (.int p), some (.int r), some (.int n), some (.int L.len), some (.int (r + n * L.len)), some (.int due)] S := by
    refine hM _ _ ?_
    try simp [-Prod.forall, -Prod.exists, -Bool.exists_bool, -Bool.forall_bool, -getElem?_pos, At, List.getElem?_cons_zero, List.getElem?_cons_succ, get_l0, get_l1, get_l2, set_l0, set_l1, set_l2, k4]
    exact .pure rfl q
  exact ⟨fun _ => fin, fun h => ⟨fun h2 => by omega, fun _ => fin⟩⟩
/-! the spans together -/
theorem upTo_add {L b e c x n : Int} (h : 0 < L) : upTo L b e c (x + n * L) = upTo L b e c x + n * (e - b) := by
  unfold upTo
  have e1 : (x + n * L) / L = x / L + n := by rw [Int.mul_comm n L]; exact div_add_mul h
  have e2 : (x + n * L) % L = x % L := by rw [Int.mul_comm n L]; exact Int.add_mul_emod_self_left _ _ _
  rw [e1, e2, Int.add_mul]
  omega
/-- between rising marks -/
theorem up_sum (g : Nat → Int) (m : Int) : ∀ N : Nat, (∀ i j, i < j → j ≤ N → g i < g j) → ((List.range N).map fun k => if g k ≤ m ∧ m < g (k + 1) then (1 : Int) else 0).sum = if g 0 ≤ m ∧ m < g N then 1 else 0
  | 0, _ => by
    rw [if_neg (by omega)]
    rfl
  | N + 1, h => by
    have ih := up_sum g m N fun i j h1 h2 => h i j h1 (by omega)
    have h1 := h N (N + 1) (by omega) (by omega)
    have h2 : g 0 ≤ g N := by
      rcases Nat.eq_zero_or_pos N with z | z
      · rw [z]; exact Int.le_refl _
      · exact Int.le_of_lt (h 0 N z (by omega))
    rw [List.range_succ, List.map_append, List.sum_append, ih, List.map_singleton, List.sum_singleton]
    split <;> split <;> split <;> omega
theorem down_sum (g : Nat → Int) (m : Int) : ∀ N : Nat, (∀ i j, i < j → j ≤ N → g j < g i) → ((List.range N).reverse.map fun k => if g (k + 1) ≤ m ∧ m < g k then (1 : Int) else 0).sum = if g N ≤ m ∧ m < g 0 then 1 else 0
  | 0, _ => by
    rw [if_neg (by omega)]
    rfl
  | N + 1, h => by
    have ih := down_sum g m N fun i j h1 h2 => h i j h1 (by omega)
    have h1 := h N (N + 1) (by omega) (by omega)
    have h2 : g N ≤ g 0 := by
      rcases Nat.eq_zero_or_pos N with z | z
      · rw [z]; exact Int.le_refl _
      · exact Int.le_of_lt (h 0 N z (by omega))
    rw [List.range_succ, List.reverse_append, List.reverse_singleton, List.singleton_append, List.map_cons, List.sum_cons, ih]
    split <;> split <;> split <;> omega
/-- each place is in one span -/
theorem span_one (L : Line) {m : Int} (h0 : 0 ≤ m) (h1 : m < L.len) : ((spanL (L.ps.length + 1)).map fun x => if begI L.H L.ps x ≤ m ∧ m < finI L.H L.ps x then (1 : Int) else 0).sum = 1 := by
  have eL : L.len = 2 * L.H := rfl
  have up := up_sum (fun k => eI L.H L.ps k) m (L.ps.length + 1) fun i j h1 h2 => eI_lt L.ok h1 (by omega)
  have dn := down_sum (fun k => 2 * L.H - eI L.H L.ps k) m (L.ps.length + 1) fun i j h1 h2 => by have := eI_lt L.ok h1 (show j < L.ps.length + 2 by omega); omega
  simp only [eI_0, eI_end] at up dn
  unfold spanL
  rw [List.map_append, List.sum_append, List.map_map, List.map_map]
  have e1 : ((fun x => if begI L.H L.ps x ≤ m ∧ m < finI L.H L.ps x then (1 : Int) else 0) ∘ fun (k : Nat) => (true, (k : Int))) = fun k => if eI L.H L.ps k ≤ m ∧ m < eI L.H L.ps (k + 1) then 1 else 0 := by
    funext k; simp only [Function.comp, begI, finI, if_true, Int.toNat_natCast]
  have e2 : ((fun x => if begI L.H L.ps x ≤ m ∧ m < finI L.H L.ps x then (1 : Int) else 0) ∘ fun (k : Nat) => (false, (k : Int))) = fun k => if 2 * L.H - eI L.H L.ps (k + 1) ≤ m ∧ m < 2 * L.H - eI L.H L.ps k then 1 else 0 := by
    funext k; simp only [Function.comp, begI, finI, Bool.false_eq_true, if_false, Int.toNat_natCast]
  rw [e1, e2, up, dn]
  split <;> split <;> omega
theorem sum_add' {α : Type} (f g : α → Int) : ∀ l : List α, (l.map fun p => f p + g p).sum = (l.map f).sum + (l.map g).sum
  | [] => rfl
  | a :: l => by simp [sum_add' f g l]; omega
/-- all runs, by the spans -/
theorem span_all (L : Line) {c : Int} (c0 : 0 ≤ c) (c1 : c < L.len) (x : Int) : ∀ n : Nat, ((spanL (L.ps.length + 1)).map fun s => upTo L.len (begI L.H L.ps s) (finI L.H L.ps s) c (x + n)).sum = ((spanL (L.ps.length + 1)).map fun s => upTo L.len (begI L.H L.ps s) (finI L.H L.ps s) c x).sum + n
  | 0 => by simp
  | n + 1 => by
    have ih := span_all L c0 c1 x n
    have hL := L.pos
    have e : ((spanL (L.ps.length + 1)).map fun s => upTo L.len (begI L.H L.ps s) (finI L.H L.ps s) c (x + (n + 1 : Nat))) = (spanL (L.ps.length + 1)).map fun s => upTo L.len (begI L.H L.ps s) (finI L.H L.ps s) c (x + n) + if begI L.H L.ps s ≤ (c + (x + n)) % L.len ∧ (c + (x + n)) % L.len < finI L.H L.ps s then 1 else 0 := by
      refine List.map_congr_left fun s hs => ?_
      obtain ⟨b0, b1, b2⟩ := span_bd L hs
      rw [← upTo_succ b0 b1 b2 c0 c1]
      congr 1
      omega
    rw [e, sum_add', ih, span_one L (Int.emod_nonneg _ (Int.ne_of_gt hL)) (Int.emod_lt_of_pos _ hL)]
    omega
end VI

set_option maxRecDepth 100000
/-! LOD: the law's own look at the spans. -/
namespace VI
open PySem PySem.Spec PyProof.Rows L2
theorem sum_sub' {α : Type} (f g : α → Int) : ∀ l : List α, (l.map fun p => f p - g p).sum = (l.map f).sum - (l.map g).sum
  | [] => rfl
  | a :: l => by simp [sum_sub' f g l]; omega
theorem x_within (L : Line) {c r n l : Int} (c0 : 0 ≤ c) (c1 : c < L.len) (r0 : 0 ≤ r) (r1 : r ≤ 100000000000000000000000000000) (n0 : 0 ≤ n) (n1 : n ≤ 1000000000) (l0 : r ≤ l) (l1 : l ≤ 1000000000000000000000000000000) (S : Store) :
    d_law_within_right [L.av, .int c, .int r, .int n, .int l] S = .ok (.bl true) S := by
  have hL := L.pos
  have lm := L.lm
  have nl0 := Int.mul_nonneg n0 (show 0 ≤ L.len by omega)
  have nl1 : n * L.len ≤ 1000000000 * 2000000 := Int.mul_le_mul n1 lm (by omega) (by omega)
  have e2 : n * 2 * L.H = n * L.len := by rw [Int.mul_assoc]; rfl
  have fit2 : Fit (n * 2) := fitT (by omega) (by omega)
  have fitn : Fit n := fitT n0 (by omega)
  refine ok_all fun Q q => wp_fn rfl ?_
  show ws (denS b_law_within_right [some L.av, some (.int c), some (.int r), some (.int n), some (.int l), none, none, none, none, none, none] S) _ _ _ _
  unfold b_law_within_right
  with_reducible refine ws_cons fun M hM => ?_
  try simp [-Prod.forall, -Prod.exists, -Bool.exists_bool, -Bool.forall_bool, -getElem?_pos, At, List.getElem?_cons_zero, List.getElem?_cons_succ, get_l0, get_l1, get_l2, set_l0, set_l1, set_l2]
  refine hM _ _ ?_
  with_reducible refine ws_seq (fun ρ S' => S' = S ∧ ∃ x6 x7 x8 x9 x10, ρ = [some L.av, some (.int c), some (.int r), some (.int n), some (.int l), some (.int ((spanL (L.ps.length + 1)).map fun s => upTo L.len (begI L.H L.ps s) (finI L.H L.ps s) c (l + 1) - upTo L.len (begI L.H L.ps s) (finI L.H L.ps s) c (r + 1)).sum), x6, x7, x8, x9, x10]) ?_ ?_
  · intro M hM
    try simp [-Prod.forall, -Prod.exists, -Bool.exists_bool, -Bool.forall_bool, -getElem?_pos, At, List.getElem?_cons_zero, List.getElem?_cons_succ, get_l0, get_l1, get_l2, set_l0, set_l1, set_l2, x_spans]
    refine wp_forM (rowA L.H L.ps) (spanL (L.ps.length + 1)) (fun j ρ S' => S' = S ∧ ∃ x6 x7 x8 x9 x10, ρ = [some L.av, some (.int c), some (.int r), some (.int n), some (.int l), some (.int (((spanL (L.ps.length + 1)).take j).map fun s => upTo L.len (begI L.H L.ps s) (finI L.H L.ps s) c (l + 1) - upTo L.len (begI L.H L.ps s) (finI L.H L.ps s) c (r + 1)).sum), x6, x7, x8, x9, x10]) ⟨rfl, _, _, _, _, _, rfl⟩ (fun _ _ _ _ => by simp) ?_ ?_
    · rintro j s ρ S' hj ⟨rfl, x6, x7, x8, x9, x10, rfl⟩ M2 hM2
      have hs := List.mem_of_getElem? hj
      have etk : (spanL (L.ps.length + 1)).take (j + 1) = (spanL (L.ps.length + 1)).take j ++ [s] := by rw [List.take_succ, hj]; rfl
      have k1 := x_runs_in L hs c r (r + n * L.len) r0 (by omega) (by omega) (by omega) S'
      have k2 := x_runs_in L hs c r l r0 (by omega) (by omega) (by omega) S'
      rw [show r + n * L.len + 1 = (r + 1) + n * L.len by omega, upTo_add hL] at k1
      unfold spA at k1 k2
      try simp [-Prod.forall, -Prod.exists, -Bool.exists_bool, -Bool.forall_bool, -getElem?_pos, At, List.getElem?_cons_zero, List.getElem?_cons_succ, get_l0, get_l1, get_l2, set_l0, set_l1, set_l2, rowA]
      unfold w_law_within_right_0
      try simp [-Prod.forall, -Prod.exists, -Bool.exists_bool, -Bool.forall_bool, -getElem?_pos, At, List.getElem?_cons_zero, List.getElem?_cons_succ, get_l0, get_l1, get_l2, set_l0, set_l1, set_l2, e2, fit2, fitn, k1, k2]
      obtain ⟨b0, b1, b2⟩ := span_bd L hs
      refine ⟨sizeL (by omega), fitT (by omega) (by omega), fun h => absurd (by omega) h, fun _ => hM2 _ _ ⟨rfl, ?_⟩⟩
      have hsum : (((spanL (L.ps.length + 1)).take (j + 1)).map fun s => upTo L.len (begI L.H L.ps s) (finI L.H L.ps s) c (l + 1) - upTo L.len (begI L.H L.ps s) (finI L.H L.ps s) c (r + 1)).sum = (((spanL (L.ps.length + 1)).map fun s => upTo L.len (begI L.H L.ps s) (finI L.H L.ps s) c (l + 1) - upTo L.len (begI L.H L.ps s) (finI L.H L.ps s) c (r + 1)).take j).sum + (upTo L.len (begI L.H L.ps s) (finI L.H L.ps s) c (l + 1) - upTo L.len (begI L.H L.ps s) (finI L.H L.ps s) c (r + 1)) := by
        rw [etk, List.map_append, List.sum_append, List.map_take]
        simp
      rw [hsum]
      exact ⟨_, _, _, _, _, rfl⟩
    · rintro ρ S' ⟨rfl, x6, x7, x8, x9, x10, rfl⟩
      refine hM _ _ ⟨rfl, x6, x7, x8, x9, x10, ?_⟩
      rw [List.take_of_length_le (Nat.le_refl _)]
  · rintro ρ S' ⟨rfl, x6, x7, x8, x9, x10, rfl⟩
    have al := span_all L c0 c1 (r + 1) (l - r).toNat
    rw [show r + 1 + ((l - r).toNat : Int) = l + 1 by omega] at al
    try simp [-Prod.forall, -Prod.exists, -Bool.exists_bool, -Bool.forall_bool, -getElem?_pos, At, List.getElem?_cons_zero, List.getElem?_cons_succ, get_l0, get_l1, get_l2, set_l0, set_l1, set_l2, sum_sub', al]
    rw [decide_eq_true (by omega)]
    exact .pure rfl q
end VI

set_option maxRecDepth 100000
/-! LOE: a law whose store begins with the table of order_at. -/
namespace VI
open PySem PySem.Spec PyProof.Rows L2
/-! a law's whole, the table in the store -/
def LawOneT (ns : List Int) (n : Nat) (w : St) : Prop := ∀ (k : Nat) (ρ : Ev) (S : Store) (M N : Ev → Store → Prop) (R : AV → Store → Prop), k ≤ 63 → ρ.length = n → Tb S → ρ[0]? = some (some (.scr ns)) → ρ[1]? = some (some (.int k)) →
  (∀ ρ' S', ρ'.length = n → Tb S' → ρ'[0]? = some (some (.scr ns)) → M ρ' S') → ws (denS w ρ S) M R M N
theorem fin_tb {S : Store} {b : Bool} {Q : AV → Store → Prop} (h : Tb S) (q : ∀ T, Q (.bl b) T) : Fin [AObj.tab (Str.ofString "order_at")] (.bl b) S Q := by
  have := h.pos
  refine ⟨⟨this, fun i hi => .inl ?_⟩, _, frz_of rfl, q _⟩
  have : i = 0 := by simpa using hi
  subst this
  exact h
theorem law_mainT {ns : List Int} {n : Nat} {N : Int} {w : St} (hN : 0 ≤ N) (hN2 : N ≤ 62) (hn : 2 ≤ n) (one : LawOneT ns n w) :
    ∃ S', mkFn false 1 n (.cons (.for (.n 1) (.it1 (.bin false .add (.c (.int 1)) (.prim false .min2 (.cons (.prim false .len (.cons (.v 0) .nil)) (.cons (.c (.int N)) .nil))))) w) (.cons (.ret (.c (.bl true))) .nil)) [.scr ns] [AObj.tab (Str.ofString "order_at")] = .ok (.bl true) S' := by
  have : wp (mkFn false 1 n (.cons (.for (.n 1) (.it1 (.bin false .add (.c (.int 1)) (.prim false .min2 (.cons (.prim false .len (.cons (.v 0) .nil)) (.cons (.c (.int N)) .nil))))) w) (.cons (.ret (.c (.bl true))) .nil)) [.scr ns] [AObj.tab (Str.ofString "order_at")]) fun r _ => r = .bl true := by
    refine wp_fn rfl ?_
    have t0 : Tb [AObj.tab (Str.ofString "order_at")] := rfl
    refine ws_seq (fun ρ S' => Tb S') ?_ ?_
    · intro M hM
      try simp [-Prod.forall, -Prod.exists, -Bool.exists_bool, -Bool.forall_bool, -getElem?_pos, At, List.getElem?_cons_zero, List.getElem?_cons_succ, get_l0, get_l1, get_l2, set_l0, set_l1, set_l2]
      refine ⟨by split <;> omega, ?_⟩
      generalize hj : (1 + if N < (ns.length : Int) then N else (ns.length : Int)).toNat = j
      have hj' : j ≤ 63 := by rw [← hj]; split <;> omega
      refine wp_forE (fun (k : Nat) => AV.int k) (List.range j) (fun ρ S' => ρ.length = n ∧ Tb S' ∧ ρ[0]? = some (some (.scr ns))) ⟨by simp; omega, t0, rfl⟩ (fun _ _ _ => by simp) ?_ ?_
      · rintro k ρ S' hk ⟨hl, ht, h0⟩ M2 hM2
        refine ⟨_, tg_n _ _ _, ?_⟩
        have := List.mem_range.1 hk
        exact one k _ _ _ _ _ (by omega) (by rw [List.length_set]; exact hl) ht (by rw [List.getElem?_set_ne (by decide)]; exact h0) (by rw [List.getElem?_set_self (by omega)]) fun ρ' S' a t b => hM2 _ _ ⟨a, t, b⟩
      · exact fun ρ S' h => hM _ _ h.2.1
    · intro ρ S' h
      try simp [-Prod.forall, -Prod.exists, -Bool.exists_bool, -Bool.forall_bool, -getElem?_pos, At, List.getElem?_cons_zero, List.getElem?_cons_succ, get_l0, get_l1, get_l2, set_l0, set_l1, set_l2]
      exact fin_tb h fun _ => rfl
  obtain ⟨a, S', e, rfl⟩ := this
  exact ⟨S', e⟩
def ordI (L : Int) (zs : List Int) : List Int := (rowP L zs).map fun p => ((zs.idxOf p : Nat) : Int)
theorem x_ord (L : Line) (C : Clips L.len) (r : Int) {S : Store} (h : Tb S) : d_order_at [L.av, C.av, .int r] S = .ok (.tup ((ordI L.len (zsOf L C r)).map .int)) S := by
  rw [x_order L C r h, ordI, List.map_map]
  rfl
end VI

set_option maxRecDepth 100000
/-! K04: however far. -/
namespace VI
open PySem PySem.Spec PyProof.Rows L2
noncomputable def w_law_0 : St := (.cons (.asg (.n 2) (.call (Str.ofString "_law_bag") d_law_bag (.cons (.v 0) (.cons (.v 1) .nil))))
    (.cons (.asg (.n 3) (.call (Str.ofString "_law_line") d_law_line (.cons (.v 2) (.cons (.ix (.lst false (.cons (.c (.int 60)) (.cons (.bin false .pow (.c (.int 10)) (.c (.int 6))) .nil))) (.call (Str.ofString "_law_take") d_law_take (.cons (.v 2) (.cons (.c (.int 2)) .nil)))) .nil))))
    (.cons (.asg (.n 4) (.bin false .mul (.c (.int 2)) (.ix (.v 3) (.c (.int 0)))))
    (.cons (.asg (.n 5) (.call (Str.ofString "_law_clips") d_law_clips (.cons (.v 2) (.cons (.v 3) (.cons (.c (.int 12)) .nil)))))
    (.cons (.asg (.n 6) (.ix (.v 5) (.c (.int 0))))
    (.cons (.asg (.n 7) (.prim false .min2 (.cons (.call (Str.ofString "_law_run") d_law_run (.cons (.v 2) (.cons (.v 3) .nil))) (.cons (.bin false .pow (.c (.int 10)) (.c (.int 29))) .nil))))
    (.cons (.asg (.n 8) (.call (Str.ofString "_law_take") d_law_take (.cons (.v 2) (.cons (.bin false .pow (.c (.int 10)) (.c (.int 9))) .nil))))
    (.cons (.asg (.n 9) (.bin false .add (.v 7) (.bin false .mul (.v 8) (.v 4))))
    (.cons (.asg (.n 10) (.call (Str.ofString "place_at") d_place_at (.cons (.v 3) (.cons (.v 6) (.cons (.v 7) .nil)))))
    (.cons (.ifs (.or (.cmp .ne (.call (Str.ofString "place_at") d_place_at (.cons (.v 3) (.cons (.v 6) (.cons (.v 9) .nil)))) (.v 10)) (.cmp .ne (.call (Str.ofString "place_at") d_place_at (.cons (.v 3) (.cons (.v 6) (.cons (.bin false .add (.v 7) (.c (.int 1))) .nil)))) (.bin false .mod (.bin false .add (.v 10) (.c (.int 1))) (.v 4)))) (.cons (.ret (.c (.bl false)))
    .nil) .nil)
    (.cons (.ifs (.or (.not (.chain .le .lt (.c (.int 0)) (.v 10) (.v 4))) (.cmp .ne (.bin false .mod (.bin false .sub (.bin false .sub (.v 10) (.v 6)) (.v 7)) (.v 4)) (.c (.int 0)))) (.cons (.ret (.c (.bl false)))
    .nil) .nil)
    (.cons (.ifs (.not (.call (Str.ofString "_law_comes_right") d_law_comes_right (.cons (.v 3) (.cons (.v 6) (.cons (.call (Str.ofString "_law_take") d_law_take (.cons (.v 2) (.cons (.v 4) .nil))) (.cons (.v 7) (.cons (.v 8) .nil))))))) (.cons (.ret (.c (.bl false)))
    .nil) .nil)
    (.cons (.ifs (.not (.call (Str.ofString "_law_within_right") d_law_within_right (.cons (.v 3) (.cons (.v 6) (.cons (.v 7) (.cons (.v 8) (.cons (.bin false .add (.v 7) (.call (Str.ofString "_law_take") d_law_take (.cons (.v 2) (.cons (.bin false .mul (.c (.int 3)) (.v 4)) .nil)))) .nil))))))) (.cons (.ret (.c (.bl false)))
    .nil) .nil)
    (.cons (.asg (.n 11) (.call (Str.ofString "order_at") d_order_at (.cons (.v 3) (.cons (.v 5) (.cons (.v 7) .nil)))))
    (.cons (.ifs (.or (.cmp .ne (.v 11) (.call (Str.ofString "order_at") d_order_at (.cons (.v 3) (.cons (.v 5) (.cons (.v 9) .nil))))) (.cmp .ne (.prim false .sumT (.cons (.call (Str.ofString "gaps_at") d_gaps_at (.cons (.v 3) (.cons (.v 5) (.cons (.v 7) .nil)))) .nil)) (.v 4))) (.cons (.ret (.c (.bl false)))
    .nil) .nil)
    .nil)))))))))))))))
noncomputable def b_law : St :=
  (.cons (.for (.n 1) (.it1 (.bin false .add (.c (.int 1)) (.prim false .min2 (.cons (.prim false .len (.cons (.v 0) .nil)) (.cons (.c (.int 20)) .nil))))) w_law_0)
    (.cons (.ret (.c (.bl true)))
    .nil))
noncomputable def d_law : Fn := mkFn false 1 12 b_law

theorem zs_rounds (L : Line) (C : Clips L.len) (r n : Int) : zsOf L C (r + n * L.len) = zsOf L C r := by
  unfold zsOf
  refine List.map_congr_left fun c _ => ?_
  rw [show c + (r + n * L.len) = (c + r) + L.len * n by rw [Int.mul_comm]; omega, Int.add_mul_emod_self_left]
theorem gaps_sum (L : Line) (C : Clips L.len) (r : Int) : (gapsR ((rowP L.len (zsOf L C r)).headD 0 + L.len) (rowP L.len (zsOf L C r))).sum = L.len := by
  have h := row_ne L C r
  generalize rowP L.len (zsOf L C r) = row at *
  cases row with
  | nil => exact absurd rfl h
  | cons p r =>
    rw [gapsR_sum, List.headD_cons]
    omega
theorem len12 {ρ : Ev} (h : ρ.length = 12) : ∃ a0 a1 a2 a3 a4 a5 a6 a7 a8 a9 a10 a11, ρ = [a0, a1, a2, a3, a4, a5, a6, a7, a8, a9, a10, a11] := by
  match ρ, h with
  | [a0, a1, a2, a3, a4, a5, a6, a7, a8, a9, a10, a11], _ => exact ⟨_, _, _, _, _, _, _, _, _, _, _, _, rfl⟩
theorem k_one (ns : List Int) : LawOneT ns 12 w_law_0 := by
  intro k ρ S M N R hk hl ht h0 h1 hM
  obtain ⟨a0, a1, a2, a3, a4, a5, a6, a7, a8, a9, a10, a11, rfl⟩ := len12 hl
  simp only [List.getElem?_cons_zero, List.getElem?_cons_succ, Option.some.injEq] at h0 h1
  subst h0 h1
  unfold w_law_0
  with_reducible refine ws_cons fun M1 hM1 => ?_
  try simp [-Prod.forall, -Prod.exists, -Bool.exists_bool, -Bool.forall_bool, -getElem?_pos, At, List.getElem?_cons_zero, List.getElem?_cons_succ, get_l0, get_l1, get_l2, set_l0, set_l1, set_l2]
  refine wp_bg (by omega) (by omega) fun b => ?_
  refine hM1 _ _ ?_
  have hb : (S ++ [b.o])[S.length]? = some b.o := by simp
  have hi0 := ht.pos
  have ht := ht.app [b.o]
  generalize S ++ [b.o] = S1 at *
  generalize S.length = i at *
  have hi := lt_of_get hb
  with_reducible refine ws_cons fun M1 hM1 => ?_
  try simp [-Prod.forall, -Prod.exists, -Bool.exists_bool, -Bool.forall_bool, -getElem?_pos, At, List.getElem?_cons_zero, List.getElem?_cons_succ, get_l0, get_l1, get_l2, set_l0, set_l1, set_l2, hz]
  refine wp_tk (b := b) (by simp [hb]) (by first | decide | omega) (by first | decide | omega) ?_
  intro ra b1 ra0 ra1
  obtain ⟨m, hm, e⟩ := pick (l := [60, 1000000]) ra0 (by simp; omega)
  have e : atI [AV.int 60, AV.int 1000000] ra = some (.int m) := e
  have hm : m = 60 ∨ m = 1000000 := by simpa using hm
  try simp [-Prod.forall, -Prod.exists, -Bool.exists_bool, -Bool.forall_bool, -getElem?_pos, At, List.getElem?_cons_zero, List.getElem?_cons_succ, get_l0, get_l1, get_l2, set_l0, set_l1, set_l2, e]
  have hb1 : (S1.set i b1.o)[i]? = some b1.o := by simp [hi]
  have ht := ht.set (o := b1.o) hi0
  generalize S1.set i b1.o = S2 at *
  have hi := lt_of_get hb1
  refine wp_ln hb1 (by omega) (by omega) fun L b2 hL => hM1 _ _ ?_
  have hb2 : (S2.set i b2.o)[i]? = some b2.o := by simp [hi]
  have ht := ht.set (o := b2.o) hi0
  generalize S2.set i b2.o = S3 at *
  have hi := lt_of_get hb2
  have l4 := L.l4
  have lm := L.lm
  have hLp := L.pos
  have eL : L.len = 2 * L.H := rfl
  with_reducible refine ws_cons fun M1 hM1 => ?_
  try simp [-Prod.forall, -Prod.exists, -Bool.exists_bool, -Bool.forall_bool, -getElem?_pos, At, List.getElem?_cons_zero, List.getElem?_cons_succ, get_l0, get_l1, get_l2, set_l0, set_l1, set_l2]
  refine hM1 _ _ ?_
  with_reducible refine ws_cons fun M1 hM1 => ?_
  try simp [-Prod.forall, -Prod.exists, -Bool.exists_bool, -Bool.forall_bool, -getElem?_pos, At, List.getElem?_cons_zero, List.getElem?_cons_succ, get_l0, get_l1, get_l2, set_l0, set_l1, set_l2]
  refine wp_clips hb2 (by omega) (by omega) fun C b3 hC => hM1 _ _ ?_
  have hb3 : (S3.set i b3.o)[i]? = some b3.o := by simp [hi]
  have ht := ht.set (o := b3.o) hi0
  generalize S3.set i b3.o = S4 at *
  have hi := lt_of_get hb3
  with_reducible refine ws_cons fun M1 hM1 => ?_
  try simp [-Prod.forall, -Prod.exists, -Bool.exists_bool, -Bool.forall_bool, -getElem?_pos, At, List.getElem?_cons_zero, List.getElem?_cons_succ, get_l0, get_l1, get_l2, set_l0, set_l1, set_l2]
  refine hM1 _ _ ?_
  with_reducible refine ws_cons fun M1 hM1 => ?_
  try simp [-Prod.forall, -Prod.exists, -Bool.exists_bool, -Bool.forall_bool, -getElem?_pos, At, List.getElem?_cons_zero, List.getElem?_cons_succ, get_l0, get_l1, get_l2, set_l0, set_l1, set_l2]
  refine wp_rn hb3 fun r b4 r0 r1 => ?_
  have hb4 : (S4.set i b4.o)[i]? = some b4.o := by simp [hi]
  have ht := ht.set (o := b4.o) hi0
  generalize S4.set i b4.o = S5 at *
  have hi := lt_of_get hb4
  clear hb hb1 hb2 hb3
  try simp [-Prod.forall, -Prod.exists, -Bool.exists_bool, -Bool.forall_bool, -getElem?_pos, At, List.getElem?_cons_zero, List.getElem?_cons_succ, get_l0, get_l1, get_l2, set_l0, set_l1, set_l2]
  refine hM1 _ _ ?_
  have u0 : 0 ≤ (if 100000000000000000000000000000 < r then 100000000000000000000000000000 else r) := by split <;> omega
  have u1 : (if 100000000000000000000000000000 < r then 100000000000000000000000000000 else r) ≤ 100000000000000000000000000000 := by split <;> omega
  generalize (if 100000000000000000000000000000 < r then 100000000000000000000000000000 else r) = u at *
  clear r0 r1 r
  with_reducible refine ws_cons fun M1 hM1 => ?_
  try simp [-Prod.forall, -Prod.exists, -Bool.exists_bool, -Bool.forall_bool, -getElem?_pos, At, List.getElem?_cons_zero, List.getElem?_cons_succ, get_l0, get_l1, get_l2, set_l0, set_l1, set_l2]
  refine wp_tk (b := b4) (by simp [hb4]) (by first | decide | omega) (by first | decide | omega) ?_
  intro n b5 n0 n1
  have hb5 : (S5.set i b5.o)[i]? = some b5.o := by simp [hi]
  have ht := ht.set (o := b5.o) hi0
  generalize S5.set i b5.o = S6 at *
  have hi := lt_of_get hb5
  clear hb4
  refine hM1 _ _ ?_
  have nl0 := Int.mul_nonneg n0 (show 0 ≤ L.len by omega)
  have nl1 : n * L.len ≤ 1000000000 * 2000000 := Int.mul_le_mul (show n ≤ 1000000000 by omega) lm (by omega) (by omega)
  have fitn : Fit n := fitT n0 (by omega)
  with_reducible refine ws_cons fun M1 hM1 => ?_
  try simp [-Prod.forall, -Prod.exists, -Bool.exists_bool, -Bool.forall_bool, -getElem?_pos, At, List.getElem?_cons_zero, List.getElem?_cons_succ, get_l0, get_l1, get_l2, set_l0, set_l1, set_l2, fitn]
  refine hM1 _ _ ?_
  with_reducible refine ws_cons fun M1 hM1 => ?_
  try simp [-Prod.forall, -Prod.exists, -Bool.exists_bool, -Bool.forall_bool, -getElem?_pos, At, List.getElem?_cons_zero, List.getElem?_cons_succ, get_l0, get_l1, get_l2, set_l0, set_l1, set_l2, x_place_at]
  refine hM1 _ _ ?_
  have p1 := Int.emod_nonneg (C.hd + u) (Int.ne_of_gt hLp)
  have p2 := Int.emod_lt_of_pos (C.hd + u) hLp
  have m1 : (C.hd + (u + n * L.len)) % L.len = (C.hd + u) % L.len := by rw [show C.hd + (u + n * L.len) = (C.hd + u) + L.len * n by rw [Int.mul_comm]; omega, Int.add_mul_emod_self_left]
  have m2 : ((C.hd + u) % L.len + 1) % L.len = (C.hd + (u + 1)) % L.len := by rw [Int.emod_add_emod, Int.add_assoc]
  have m3 : ((C.hd + u) % L.len - C.hd - u) % L.len = 0 := by
    rw [show (C.hd + u) % L.len - C.hd - u = (C.hd + u) % L.len - (C.hd + u) by omega, Int.emod_sub_emod, Int.sub_self, Int.zero_emod]
  with_reducible refine ws_cons fun M1 hM1 => ?_
  try simp [-Prod.forall, -Prod.exists, -Bool.exists_bool, -Bool.forall_bool, -getElem?_pos, At, List.getElem?_cons_zero, List.getElem?_cons_succ, get_l0, get_l1, get_l2, set_l0, set_l1, set_l2, x_place_at, m1, m2]
  refine hM1 _ _ ?_
  with_reducible refine ws_cons fun M1 hM1 => ?_
  try simp [-Prod.forall, -Prod.exists, -Bool.exists_bool, -Bool.forall_bool, -getElem?_pos, At, List.getElem?_cons_zero, List.getElem?_cons_succ, get_l0, get_l1, get_l2, set_l0, set_l1, set_l2, p1, p2, m3]
  refine hM1 _ _ ?_
  have hd := C.rg _ C.hd_mem
  with_reducible refine ws_cons fun M1 hM1 => ?_
  try simp [-Prod.forall, -Prod.exists, -Bool.exists_bool, -Bool.forall_bool, -getElem?_pos, At, List.getElem?_cons_zero, List.getElem?_cons_succ, get_l0, get_l1, get_l2, set_l0, set_l1, set_l2]
  refine wp_tk (b := b5) (by simp [hb5]) (by first | decide | omega) (by first | decide | omega) ?_
  intro pl b6 pl0 pl1
  have hb6 : (S6.set i b6.o)[i]? = some b6.o := by simp [hi]
  have ht := ht.set (o := b6.o) hi0
  generalize S6.set i b6.o = S7 at *
  have hi := lt_of_get hb6
  clear hb5
  try simp [-Prod.forall, -Prod.exists, -Bool.exists_bool, -Bool.forall_bool, -getElem?_pos, At, List.getElem?_cons_zero, List.getElem?_cons_succ, get_l0, get_l1, get_l2, set_l0, set_l1, set_l2, x_comes L (c := C.hd) pl0 pl1 u0 n0 (show n ≤ 1000000000 by omega) S7]
  refine hM1 _ _ ?_
  with_reducible refine ws_cons fun M1 hM1 => ?_
  try simp [-Prod.forall, -Prod.exists, -Bool.exists_bool, -Bool.forall_bool, -getElem?_pos, At, List.getElem?_cons_zero, List.getElem?_cons_succ, get_l0, get_l1, get_l2, set_l0, set_l1, set_l2]
  refine wp_tk (b := b6) (by simp [hb6]) (by first | decide | omega) (by first | decide | omega) ?_
  intro q b7 q0 q1
  have hb7 : (S7.set i b7.o)[i]? = some b7.o := by simp [hi]
  have ht := ht.set (o := b7.o) hi0
  generalize S7.set i b7.o = S8 at *
  have hi := lt_of_get hb7
  clear hb6
  try simp [-Prod.forall, -Prod.exists, -Bool.exists_bool, -Bool.forall_bool, -getElem?_pos, At, List.getElem?_cons_zero, List.getElem?_cons_succ, get_l0, get_l1, get_l2, set_l0, set_l1, set_l2, x_within L hd.1 hd.2 u0 u1 n0 (show n ≤ 1000000000 by omega) (show u ≤ u + q by omega) (show u + q ≤ 1000000000000000000000000000000 by omega) S8]
  refine hM1 _ _ ?_
  have ho := x_ord L C u ht
  have ho2 := x_ord L C (u + n * L.len) ht
  rw [zs_rounds] at ho2
  have hg := x_gaps L C u ht
  have gs := gaps_sum L C u
  generalize gapsR ((rowP L.len (zsOf L C u)).headD 0 + L.len) (rowP L.len (zsOf L C u)) = gg at *
  with_reducible refine ws_cons fun M1 hM1 => ?_
  try simp [-Prod.forall, -Prod.exists, -Bool.exists_bool, -Bool.forall_bool, -getElem?_pos, At, List.getElem?_cons_zero, List.getElem?_cons_succ, get_l0, get_l1, get_l2, set_l0, set_l1, set_l2, ho]
  refine hM1 _ _ ?_
  with_reducible refine ws_cons fun M1 hM1 => ?_
  try simp [-Prod.forall, -Prod.exists, -Bool.exists_bool, -Bool.forall_bool, -getElem?_pos, At, List.getElem?_cons_zero, List.getElem?_cons_succ, get_l0, get_l1, get_l2, set_l0, set_l1, set_l2, ho2, hg, e_intT, gs]
  refine hM1 _ _ ?_
  try simp [-Prod.forall, -Prod.exists, -Bool.exists_bool, -Bool.forall_bool, -getElem?_pos, At, List.getElem?_cons_zero, List.getElem?_cons_succ, get_l0, get_l1, get_l2, set_l0, set_l1, set_l2]
  exact hM _ _ rfl ht rfl
theorem law_true (ns : List Int) (h : ns.length ≤ 63) : ∃ S', d_law [.scr ns] [AObj.tab "order_at"] = .ok (.bl true) S' := law_mainT (by decide) (by decide) (by decide) (k_one ns)
end VI

namespace VE
open PySem PySem.Spec PyProof.Rows L2 VI

def topS (i : Nat) : Stmt := PySem.Challenge.pw_roundrope_k04_whole_however_far.main.body.getD i (.Pass ⟨0, 0, 0, 0⟩)

abbrev s0 : Stmt := topS 2
theorem sc0 : FnScope ["line"] ["line"] (defScope s0) := ⟨rfl, rfl, rfl, by decide +kernel, rfl, by decide +kernel, by decide +kernel⟩
theorem ce0 : ceSs ["line"] (defScope s0) b_length_of (defBody s0) = true := by decide +kernel
abbrev s1 : Stmt := topS 3
theorem sc1 : FnScope ["line"] ["line"] (defScope s1) := ⟨rfl, rfl, rfl, by decide +kernel, rfl, by decide +kernel, by decide +kernel⟩
theorem ce1 : ceSs ["line"] (defScope s1) b_ends_of (defBody s1) = true := by decide +kernel
abbrev s2 : Stmt := topS 4
theorem sc2 : FnScope ["line", "span", "side", "number", "begin", "end"] ["line", "span"] (defScope s2) := ⟨rfl, rfl, rfl, by decide +kernel, rfl, by decide +kernel, by decide +kernel⟩
theorem ce2 : ceSs ["line", "span", "side", "number", "begin", "end"] (defScope s2) b_places_of (defBody s2) = true := by decide +kernel
abbrev s3 : Stmt := topS 6
theorem sc3 : FnScope ["line", "clip", "run"] ["line", "clip", "run"] (defScope s3) := ⟨rfl, rfl, rfl, by decide +kernel, rfl, by decide +kernel, by decide +kernel⟩
theorem ce3 : ceSs ["line", "clip", "run"] (defScope s3) b_place_at (defBody s3) = true := by decide +kernel
abbrev s4 : Stmt := topS 7
theorem sc4 : FnScope ["line", "clip", "place", "run", "way"] ["line", "clip", "place", "run"] (defScope s4) := ⟨rfl, rfl, rfl, by decide +kernel, rfl, by decide +kernel, by decide +kernel⟩
theorem ce4 : ceSs ["line", "clip", "place", "run", "way"] (defScope s4) b_next_pass (defBody s4) = true := by decide +kernel
abbrev s5 : Stmt := topS 8
theorem sc5 : FnScope ["line", "clip", "place", "first", "last", "begin"] ["line", "clip", "place", "first", "last"] (defScope s5) := ⟨rfl, rfl, rfl, by decide +kernel, rfl, by decide +kernel, by decide +kernel⟩
theorem ce5 : ceSs ["line", "clip", "place", "first", "last", "begin"] (defScope s5) b_passes (defBody s5) = true := by decide +kernel
abbrev s6 : Stmt := topS 9
theorem sc6 : FnScope ["line", "clip", "span", "run", "found", "begin", "end", "rounds", "rest", "first", "last"] ["line", "clip", "span", "run"] (defScope s6) := ⟨rfl, rfl, rfl, by decide +kernel, rfl, by decide +kernel, by decide +kernel⟩
theorem ce6 : ceSs ["line", "clip", "span", "run", "found", "begin", "end", "rounds", "rest", "first", "last"] (defScope s6) b_runs_up_to (defBody s6) = true := by decide +kernel
abbrev s7 : Stmt := topS 10
theorem sc7 : FnScope ["line", "clip", "span", "first", "last"] ["line", "clip", "span", "first", "last"] (defScope s7) := ⟨rfl, rfl, rfl, by decide +kernel, rfl, by decide +kernel, by decide +kernel⟩
theorem ce7 : ceSs ["line", "clip", "span", "first", "last"] (defScope s7) b_runs_in (defBody s7) = true := by decide +kernel
abbrev s8 : Stmt := topS 11
theorem sc8 : FnScope ["line", "clips", "run"] ["line", "clips", "run"] (defScope s8) := ⟨rfl, rfl, rfl, by decide +kernel, rfl, by decide +kernel, by decide +kernel⟩
theorem ce8 : lamOk (defBody s8) (defScope s8) ["line", "clips", "run"] "bucket" n_order_at m_order_at = true := by decide +kernel
abbrev s9 : Stmt := topS 12
theorem sc9 : FnScope ["line", "clips", "run", "row", "found", "bucket", "k"] ["line", "clips", "run"] (defScope s9) := ⟨rfl, rfl, rfl, by decide +kernel, rfl, by decide +kernel, by decide +kernel⟩
theorem ce9 : ceSs ["line", "clips", "run", "row", "found", "bucket", "k"] (defScope s9) b_gaps_at (defBody s9) = true := by decide +kernel
abbrev s10 : Stmt := topS 14
theorem sc10 : FnScope ["script", "k", "cell"] ["script", "k"] (defScope s10) := ⟨rfl, rfl, rfl, by decide +kernel, rfl, by decide +kernel, by decide +kernel⟩
theorem ce10 : ceSs ["script", "k", "cell"] (defScope s10) b_law_bag (defBody s10) = true := by decide +kernel
abbrev s11 : Stmt := topS 15
theorem sc11 : FnScope ["bag", "many", "found"] ["bag", "many"] (defScope s11) := ⟨rfl, rfl, rfl, by decide +kernel, rfl, by decide +kernel, by decide +kernel⟩
theorem ce11 : ceSs ["bag", "many", "found"] (defScope s11) b_law_take (defBody s11) = true := by decide +kernel
abbrev s12 : Stmt := topS 16
theorem sc12 : FnScope ["bag", "most", "half", "posts", "post"] ["bag", "most"] (defScope s12) := ⟨rfl, rfl, rfl, by decide +kernel, rfl, by decide +kernel, by decide +kernel⟩
theorem ce12 : ceSs ["bag", "most", "half", "posts", "post"] (defScope s12) b_law_line (defBody s12) = true := by decide +kernel
abbrev s13 : Stmt := topS 17
theorem sc13 : FnScope ["bag", "line", "most", "found", "bucket", "place"] ["bag", "line", "most"] (defScope s13) := ⟨rfl, rfl, rfl, by decide +kernel, rfl, by decide +kernel, by decide +kernel⟩
theorem ce13 : ceSs ["bag", "line", "most", "found", "bucket", "place"] (defScope s13) b_law_clips (defBody s13) = true := by decide +kernel
abbrev s14 : Stmt := topS 18
theorem sc14 : FnScope ["bag", "line"] ["bag", "line"] (defScope s14) := ⟨rfl, rfl, rfl, by decide +kernel, rfl, by decide +kernel, by decide +kernel⟩
theorem ce14 : ceSs ["bag", "line"] (defScope s14) b_law_run (defBody s14) = true := by decide +kernel
abbrev s15 : Stmt := topS 19
theorem sc15 : FnScope ["line", "ends", "found", "k"] ["line"] (defScope s15) := ⟨rfl, rfl, rfl, by decide +kernel, rfl, by decide +kernel, by decide +kernel⟩
theorem ce15 : ceSs ["line", "ends", "found", "k"] (defScope s15) b_law_spans (defBody s15) = true := by decide +kernel
abbrev s16 : Stmt := topS 20
theorem sc16 : FnScope ["line", "clip", "place", "run", "rounds", "length", "more", "due"] ["line", "clip", "place", "run", "rounds"] (defScope s16) := ⟨rfl, rfl, rfl, by decide +kernel, rfl, by decide +kernel, by decide +kernel⟩
theorem ce16 : ceSs ["line", "clip", "place", "run", "rounds", "length", "more", "due"] (defScope s16) b_law_comes_right (defBody s16) = true := by decide +kernel
abbrev s17 : Stmt := topS 21
theorem sc17 : FnScope ["line", "clip", "run", "rounds", "last", "within", "side", "number", "begin", "end", "span"] ["line", "clip", "run", "rounds", "last"] (defScope s17) := ⟨rfl, rfl, rfl, by decide +kernel, rfl, by decide +kernel, by decide +kernel⟩
theorem ce17 : ceSs ["line", "clip", "run", "rounds", "last", "within", "side", "number", "begin", "end", "span"] (defScope s17) b_law_within_right (defBody s17) = true := by decide +kernel
abbrev s18 : Stmt := topS 22
theorem sc18 : FnScope ["script", "k", "bag", "line", "length", "clips", "clip", "run", "rounds", "more", "here", "order"] ["script"] (defScope s18) := ⟨rfl, rfl, rfl, by decide +kernel, rfl, by decide +kernel, by decide +kernel⟩
theorem ce18 : ceSs ["script", "k", "bag", "line", "length", "clips", "clip", "run", "rounds", "more", "here", "order"] (defScope s18) b_law (defBody s18) = true := by decide +kernel
section
variable {P : Program} {w : World} {K : PySem.W.Frag} {mg : Str → Option Value} {base : Heap}
theorem ok0 {f : Addr} {fd : FuncData} (F : FunA K "length_of" "length_of" s0 f fd) (hm : mg "length_of" = some (.ref f)) (hb : Binds K fd ["line"] []) : Fx P w K mg base 2 "length_of" d_length_of := by
  refine fx_ok (keep := false) F hm hb sc0 ce0 ?_
  simp only [b_length_of, LkS, Lk]
  repeat' (first | exact True.intro | assumption | apply And.intro)
theorem ok1 {f : Addr} {fd : FuncData} (F : FunA K "ends_of" "ends_of" s1 f fd) (hm : mg "ends_of" = some (.ref f)) (hb : Binds K fd ["line"] []) : Fx P w K mg base 2 "ends_of" d_ends_of := by
  refine fx_ok (keep := false) F hm hb sc1 ce1 ?_
  simp only [b_ends_of, LkS, Lk]
  repeat' (first | exact True.intro | assumption | apply And.intro)
theorem ok2 {f : Addr} {fd : FuncData} (F : FunA K "places_of" "places_of" s2 f fd) (hm : mg "places_of" = some (.ref f)) (hb : Binds K fd ["line", "span"] []) (x0 : Fx P w K mg base 2 "length_of" d_length_of) (x1 : Fx P w K mg base 2 "ends_of" d_ends_of) (g0 : ∃ u v, mg "OUT" = some u ∧ RelV v u ∧ ∀ W, RV K W (.str (Str.ofString "out")) v) : Fx P w K mg base 3 "places_of" d_places_of := by
  refine fx_ok (keep := false) F hm hb sc2 ce2 ?_
  simp only [b_places_of, LkS, Lk]
  repeat' (first | exact True.intro | assumption | apply And.intro)
theorem ok3 {f : Addr} {fd : FuncData} (F : FunA K "place_at" "place_at" s3 f fd) (hm : mg "place_at" = some (.ref f)) (hb : Binds K fd ["line", "clip", "run"] []) (x0 : Fx P w K mg base 2 "length_of" d_length_of) : Fx P w K mg base 3 "place_at" d_place_at := by
  refine fx_ok (keep := false) F hm hb sc3 ce3 ?_
  simp only [b_place_at, LkS, Lk]
  repeat' (first | exact True.intro | assumption | apply And.intro)
theorem ok4 {f : Addr} {fd : FuncData} (F : FunA K "next_pass" "next_pass" s4 f fd) (hm : mg "next_pass" = some (.ref f)) (hb : Binds K fd ["line", "clip", "place", "run"] []) (x0 : Fx P w K mg base 3 "length_of" d_length_of) (x3 : Fx P w K mg base 3 "place_at" d_place_at) : Fx P w K mg base 4 "next_pass" d_next_pass := by
  refine fx_ok (keep := false) F hm hb sc4 ce4 ?_
  simp only [b_next_pass, LkS, Lk]
  repeat' (first | exact True.intro | assumption | apply And.intro)
theorem ok5 {f : Addr} {fd : FuncData} (F : FunA K "passes" "passes" s5 f fd) (hm : mg "passes" = some (.ref f)) (hb : Binds K fd ["line", "clip", "place", "first", "last"] []) (x0 : Fx P w K mg base 4 "length_of" d_length_of) (x4 : Fx P w K mg base 4 "next_pass" d_next_pass) : Fx P w K mg base 5 "passes" d_passes := by
  refine fx_ok (keep := false) F hm hb sc5 ce5 ?_
  simp only [b_passes, LkS, Lk]
  repeat' (first | exact True.intro | assumption | apply And.intro)
theorem ok6 {f : Addr} {fd : FuncData} (F : FunA K "runs_up_to" "runs_up_to" s6 f fd) (hm : mg "runs_up_to" = some (.ref f)) (hb : Binds K fd ["line", "clip", "span", "run"] []) (x0 : Fx P w K mg base 3 "length_of" d_length_of) (x2 : Fx P w K mg base 3 "places_of" d_places_of) (z0 : mg "divmod" = none) (z1 : mg "max" = none) (z2 : mg "min" = none) : Fx P w K mg base 4 "runs_up_to" d_runs_up_to := by
  refine fx_ok (keep := false) F hm hb sc6 ce6 ?_
  simp only [b_runs_up_to, w_runs_up_to_0, LkS, Lk]
  repeat' (first | exact True.intro | assumption | apply And.intro)
theorem ok7 {f : Addr} {fd : FuncData} (F : FunA K "runs_in" "runs_in" s7 f fd) (hm : mg "runs_in" = some (.ref f)) (hb : Binds K fd ["line", "clip", "span", "first", "last"] []) (x6 : Fx P w K mg base 4 "runs_up_to" d_runs_up_to) : Fx P w K mg base 5 "runs_in" d_runs_in := by
  refine fx_ok (keep := false) F hm hb sc7 ce7 ?_
  simp only [b_runs_in, LkS, Lk]
  repeat' (first | exact True.intro | assumption | apply And.intro)
theorem ok8 {f : Addr} {fd : FuncData} (F : FunA K "order_at" "order_at" s8 f fd) (hm : mg "order_at" = some (.ref f)) (hb : Binds K fd ["line", "clips", "run"] []) (hn : PySem.W.nsIn K mainGlobals "order_at" = some (some (.ref f))) (tb : ∀ c T oc vs, fd.code = .ref c → K.lookup c = some oc → oc.data = .fields vs → vs[11]? = some (.ref T) → LamX.TabB base mg c T) (x3 : Fx P w K mg base 3 "place_at" d_place_at) (z3 : mg "tuple" = none) (z4 : mg "sorted" = none) (z5 : mg "range" = none) (z6 : mg "len" = none) : Fx P w K mg base 7 "order_at" d_order_at := by
  refine fx_lamB F hm hn hb sc8 ce8 tb (by decide +kernel) (fun _ _ _ _ _ _ _ _ _ => rfl) (by assumption) (by assumption) (by assumption) ?_ ?_
  · simp only [n_order_at, Lk]
    repeat' (first | exact True.intro | assumption | apply And.intro)
  · simp only [m_order_at, Lk]
    repeat' (first | exact True.intro | assumption | apply And.intro)
theorem ok9 {f : Addr} {fd : FuncData} (F : FunA K "gaps_at" "gaps_at" s9 f fd) (hm : mg "gaps_at" = some (.ref f)) (hb : Binds K fd ["line", "clips", "run"] []) (x0 : Fx P w K mg base 7 "length_of" d_length_of) (x3 : Fx P w K mg base 7 "place_at" d_place_at) (x8 : Fx P w K mg base 7 "order_at" d_order_at) (z3 : mg "tuple" = none) (z5 : mg "range" = none) (z6 : mg "len" = none) : Fx P w K mg base 8 "gaps_at" d_gaps_at := by
  refine fx_ok (keep := false) F hm hb sc9 ce9 ?_
  simp only [b_gaps_at, c_gaps_at_0, c_gaps_at_1, LkS, Lk]
  repeat' (first | exact True.intro | assumption | apply And.intro)
theorem ok10 {f : Addr} {fd : FuncData} (F : FunA K "_law_bag" "_law_bag" s10 f fd) (hm : mg "_law_bag" = some (.ref f)) (hb : Binds K fd ["script", "k"] []) (z6 : mg "len" = none) : Fx P w K mg base 2 "_law_bag" d_law_bag := by
  refine fx_ok (keep := true) F hm hb sc10 ce10 ?_
  simp only [b_law_bag, LkS, Lk]
  repeat' (first | exact True.intro | assumption | apply And.intro)
theorem ok11 {f : Addr} {fd : FuncData} (F : FunA K "_law_take" "_law_take" s11 f fd) (hm : mg "_law_take" = some (.ref f)) (hb : Binds K fd ["bag", "many"] []) : Fx P w K mg base 2 "_law_take" d_law_take := by
  refine fx_ok (keep := true) F hm hb sc11 ce11 ?_
  simp only [b_law_take, LkS, Lk]
  repeat' (first | exact True.intro | assumption | apply And.intro)
theorem ok12 {f : Addr} {fd : FuncData} (F : FunA K "_law_line" "_law_line" s12 f fd) (hm : mg "_law_line" = some (.ref f)) (hb : Binds K fd ["bag", "most"] []) (x11 : Fx P w K mg base 2 "_law_take" d_law_take) (z2 : mg "min" = none) (z5 : mg "range" = none) (z3 : mg "tuple" = none) (z4 : mg "sorted" = none) (z7 : mg "set" = none) : Fx P w K mg base 3 "_law_line" d_law_line := by
  refine fx_ok (keep := false) F hm hb sc12 ce12 ?_
  simp only [b_law_line, w_law_line_0, LkS, Lk]
  repeat' (first | exact True.intro | assumption | apply And.intro)
theorem ok13 {f : Addr} {fd : FuncData} (F : FunA K "_law_clips" "_law_clips" s13 f fd) (hm : mg "_law_clips" = some (.ref f)) (hb : Binds K fd ["bag", "line", "most"] []) (x11 : Fx P w K mg base 2 "_law_take" d_law_take) (z5 : mg "range" = none) (z3 : mg "tuple" = none) (z8 : mg "int" = none) : Fx P w K mg base 3 "_law_clips" d_law_clips := by
  refine fx_ok (keep := false) F hm hb sc13 ce13 ?_
  simp only [b_law_clips, w_law_clips_0, LkS, Lk]
  repeat' (first | exact True.intro | assumption | apply And.intro)
theorem ok14 {f : Addr} {fd : FuncData} (F : FunA K "_law_run" "_law_run" s14 f fd) (hm : mg "_law_run" = some (.ref f)) (hb : Binds K fd ["bag", "line"] []) (x11 : Fx P w K mg base 2 "_law_take" d_law_take) : Fx P w K mg base 3 "_law_run" d_law_run := by
  refine fx_ok (keep := false) F hm hb sc14 ce14 ?_
  simp only [b_law_run, LkS, Lk]
  repeat' (first | exact True.intro | assumption | apply And.intro)
theorem ok15 {f : Addr} {fd : FuncData} (F : FunA K "_law_spans" "_law_spans" s15 f fd) (hm : mg "_law_spans" = some (.ref f)) (hb : Binds K fd ["line"] []) (z9 : mg "list" = none) (z5 : mg "range" = none) (z6 : mg "len" = none) : Fx P w K mg base 2 "_law_spans" d_law_spans := by
  refine fx_ok (keep := false) F hm hb sc15 ce15 ?_
  simp only [b_law_spans, w_law_spans_0, c_law_spans_0, LkS, Lk]
  repeat' (first | exact True.intro | assumption | apply And.intro)
theorem ok16 {f : Addr} {fd : FuncData} (F : FunA K "_law_comes_right" "_law_comes_right" s16 f fd) (hm : mg "_law_comes_right" = some (.ref f)) (hb : Binds K fd ["line", "clip", "place", "run", "rounds"] []) (x3 : Fx P w K mg base 5 "place_at" d_place_at) (x4 : Fx P w K mg base 5 "next_pass" d_next_pass) (x5 : Fx P w K mg base 5 "passes" d_passes) : Fx P w K mg base 6 "_law_comes_right" d_law_comes_right := by
  refine fx_ok (keep := false) F hm hb sc16 ce16 ?_
  simp only [b_law_comes_right, LkS, Lk]
  repeat' (first | exact True.intro | assumption | apply And.intro)
theorem ok17 {f : Addr} {fd : FuncData} (F : FunA K "_law_within_right" "_law_within_right" s17 f fd) (hm : mg "_law_within_right" = some (.ref f)) (hb : Binds K fd ["line", "clip", "run", "rounds", "last"] []) (x7 : Fx P w K mg base 5 "runs_in" d_runs_in) (x15 : Fx P w K mg base 5 "_law_spans" d_law_spans) : Fx P w K mg base 6 "_law_within_right" d_law_within_right := by
  refine fx_ok (keep := false) F hm hb sc17 ce17 ?_
  simp only [b_law_within_right, w_law_within_right_0, LkS, Lk]
  repeat' (first | exact True.intro | assumption | apply And.intro)
theorem ok18 {f : Addr} {fd : FuncData} (F : FunA K "law" "law" s18 f fd) (x3 : Fx P w K mg base 8 "place_at" d_place_at) (x8 : Fx P w K mg base 8 "order_at" d_order_at) (x9 : Fx P w K mg base 8 "gaps_at" d_gaps_at) (x10 : Fx P w K mg base 8 "_law_bag" d_law_bag) (x11 : Fx P w K mg base 8 "_law_take" d_law_take) (x12 : Fx P w K mg base 8 "_law_line" d_law_line) (x13 : Fx P w K mg base 8 "_law_clips" d_law_clips) (x14 : Fx P w K mg base 8 "_law_run" d_law_run) (x16 : Fx P w K mg base 8 "_law_comes_right" d_law_comes_right) (x17 : Fx P w K mg base 8 "_law_within_right" d_law_within_right) (z5 : mg "range" = none) (z2 : mg "min" = none) (z6 : mg "len" = none) (z10 : mg "sum" = none) : FnOk P w K mg base CX0 9 f fd ["script"] (spOf K d_law) := by
  refine fn_ok (keep := false) F sc18 ce18 ?_
  simp only [b_law, w_law_0, LkS, Lk]
  repeat' (first | exact True.intro | assumption | apply And.intro)
theorem all_mk {l : PySem.W.OpenLaw} {w : World} {K : PySem.W.Frag} {h : Heap} {mg : Str → Option Value} {fa f0 f1 f2 f3 f4 f5 f6 f7 f8 f9 f10 f11 f12 f13 f14 f15 f16 f17 f18 : Addr} {od0 an0 od1 an1 od2 an2 od3 an3 od4 an4 od5 an5 od6 an6 od7 an7 od8 an8 od9 an9 od10 an10 od11 an11 od12 an12 od13 an13 od14 an14 od15 an15 od16 an16 od17 an17 od18 an18 : Option Addr} {sl0 sl1 sl2 sl3 sl4 sl5 sl6 sl7 sl8 sl9 sl10 sl11 sl12 sl13 sl14 sl15 sl16 sl17 sl18 : Array (Option Value)} {oc0 kV0 dc0 pm0 cd0 ct0 oc1 kV1 dc1 pm1 cd1 ct1 oc2 kV2 dc2 pm2 cd2 ct2 oc3 kV3 dc3 pm3 cd3 ct3 oc4 kV4 dc4 pm4 cd4 ct4 oc5 kV5 dc5 pm5 cd5 ct5 oc6 kV6 dc6 pm6 cd6 ct6 oc7 kV7 dc7 pm7 cd7 ct7 oc8 kV8 dc8 pm8 cd8 ct8 oc9 kV9 dc9 pm9 cd9 ct9 oc10 kV10 dc10 pm10 cd10 ct10 oc11 kV11 dc11 pm11 cd11 ct11 oc12 kV12 dc12 pm12 cd12 ct12 oc13 kV13 dc13 pm13 cd13 ct13 oc14 kV14 dc14 pm14 cd14 ct14 oc15 kV15 dc15 pm15 cd15 ct15 oc16 kV16 dc16 pm16 cd16 ct16 oc17 kV17 dc17 pm17 cd17 ct17 oc18 kV18 dc18 pm18 cd18 ct18 : Value} {gv0 : Value} {cL PL : Addr} {ocL : Value} {odL : Option Addr} {vsL : Array Value} {slL : Array (Option Value)} (X : K.In h) (G : h.Ns mainGlobals mg) (hfa : mg "law" = some (.ref fa)) (a0 : PySem.W.nsIn K mainGlobals "length_of" = some (some (.ref f0))) (l0 : K.lookup f0 = some ⟨oc0, od0, .func (PySem.W.fnOf "length_of" "length_of" (defArgs s0) (defBody s0) (defScope s0) .none kV0 dc0 pm0 an0 cd0 ct0), sl0⟩) (c0 : PySem.W.codeIn K cd0 "length_of" = true) (k0 : PySem.W.keepIn K (.ref f0) = true) (a1 : PySem.W.nsIn K mainGlobals "ends_of" = some (some (.ref f1))) (l1 : K.lookup f1 = some ⟨oc1, od1, .func (PySem.W.fnOf "ends_of" "ends_of" (defArgs s1) (defBody s1) (defScope s1) .none kV1 dc1 pm1 an1 cd1 ct1), sl1⟩) (c1 : PySem.W.codeIn K cd1 "ends_of" = true) (k1 : PySem.W.keepIn K (.ref f1) = true) (a2 : PySem.W.nsIn K mainGlobals "places_of" = some (some (.ref f2))) (l2 : K.lookup f2 = some ⟨oc2, od2, .func (PySem.W.fnOf "places_of" "places_of" (defArgs s2) (defBody s2) (defScope s2) .none kV2 dc2 pm2 an2 cd2 ct2), sl2⟩) (c2 : PySem.W.codeIn K cd2 "places_of" = true) (k2 : PySem.W.keepIn K (.ref f2) = true) (a3 : PySem.W.nsIn K mainGlobals "place_at" = some (some (.ref f3))) (l3 : K.lookup f3 = some ⟨oc3, od3, .func (PySem.W.fnOf "place_at" "place_at" (defArgs s3) (defBody s3) (defScope s3) .none kV3 dc3 pm3 an3 cd3 ct3), sl3⟩) (c3 : PySem.W.codeIn K cd3 "place_at" = true) (k3 : PySem.W.keepIn K (.ref f3) = true) (a4 : PySem.W.nsIn K mainGlobals "next_pass" = some (some (.ref f4))) (l4 : K.lookup f4 = some ⟨oc4, od4, .func (PySem.W.fnOf "next_pass" "next_pass" (defArgs s4) (defBody s4) (defScope s4) .none kV4 dc4 pm4 an4 cd4 ct4), sl4⟩) (c4 : PySem.W.codeIn K cd4 "next_pass" = true) (k4 : PySem.W.keepIn K (.ref f4) = true) (a5 : PySem.W.nsIn K mainGlobals "passes" = some (some (.ref f5))) (l5 : K.lookup f5 = some ⟨oc5, od5, .func (PySem.W.fnOf "passes" "passes" (defArgs s5) (defBody s5) (defScope s5) .none kV5 dc5 pm5 an5 cd5 ct5), sl5⟩) (c5 : PySem.W.codeIn K cd5 "passes" = true) (k5 : PySem.W.keepIn K (.ref f5) = true) (a6 : PySem.W.nsIn K mainGlobals "runs_up_to" = some (some (.ref f6))) (l6 : K.lookup f6 = some ⟨oc6, od6, .func (PySem.W.fnOf "runs_up_to" "runs_up_to" (defArgs s6) (defBody s6) (defScope s6) .none kV6 dc6 pm6 an6 cd6 ct6), sl6⟩) (c6 : PySem.W.codeIn K cd6 "runs_up_to" = true) (k6 : PySem.W.keepIn K (.ref f6) = true) (a7 : PySem.W.nsIn K mainGlobals "runs_in" = some (some (.ref f7))) (l7 : K.lookup f7 = some ⟨oc7, od7, .func (PySem.W.fnOf "runs_in" "runs_in" (defArgs s7) (defBody s7) (defScope s7) .none kV7 dc7 pm7 an7 cd7 ct7), sl7⟩) (c7 : PySem.W.codeIn K cd7 "runs_in" = true) (k7 : PySem.W.keepIn K (.ref f7) = true) (a8 : PySem.W.nsIn K mainGlobals "order_at" = some (some (.ref f8))) (l8 : K.lookup f8 = some ⟨oc8, od8, .func (PySem.W.fnOf "order_at" "order_at" (defArgs s8) (defBody s8) (defScope s8) .none kV8 dc8 pm8 an8 cd8 ct8), sl8⟩) (c8 : PySem.W.codeIn K cd8 "order_at" = true) (k8 : PySem.W.keepIn K (.ref f8) = true) (a9 : PySem.W.nsIn K mainGlobals "gaps_at" = some (some (.ref f9))) (l9 : K.lookup f9 = some ⟨oc9, od9, .func (PySem.W.fnOf "gaps_at" "gaps_at" (defArgs s9) (defBody s9) (defScope s9) .none kV9 dc9 pm9 an9 cd9 ct9), sl9⟩) (c9 : PySem.W.codeIn K cd9 "gaps_at" = true) (k9 : PySem.W.keepIn K (.ref f9) = true) (a10 : PySem.W.nsIn K mainGlobals "_law_bag" = some (some (.ref f10))) (l10 : K.lookup f10 = some ⟨oc10, od10, .func (PySem.W.fnOf "_law_bag" "_law_bag" (defArgs s10) (defBody s10) (defScope s10) .none kV10 dc10 pm10 an10 cd10 ct10), sl10⟩) (c10 : PySem.W.codeIn K cd10 "_law_bag" = true) (k10 : PySem.W.keepIn K (.ref f10) = true) (a11 : PySem.W.nsIn K mainGlobals "_law_take" = some (some (.ref f11))) (l11 : K.lookup f11 = some ⟨oc11, od11, .func (PySem.W.fnOf "_law_take" "_law_take" (defArgs s11) (defBody s11) (defScope s11) .none kV11 dc11 pm11 an11 cd11 ct11), sl11⟩) (c11 : PySem.W.codeIn K cd11 "_law_take" = true) (k11 : PySem.W.keepIn K (.ref f11) = true) (a12 : PySem.W.nsIn K mainGlobals "_law_line" = some (some (.ref f12))) (l12 : K.lookup f12 = some ⟨oc12, od12, .func (PySem.W.fnOf "_law_line" "_law_line" (defArgs s12) (defBody s12) (defScope s12) .none kV12 dc12 pm12 an12 cd12 ct12), sl12⟩) (c12 : PySem.W.codeIn K cd12 "_law_line" = true) (k12 : PySem.W.keepIn K (.ref f12) = true) (a13 : PySem.W.nsIn K mainGlobals "_law_clips" = some (some (.ref f13))) (l13 : K.lookup f13 = some ⟨oc13, od13, .func (PySem.W.fnOf "_law_clips" "_law_clips" (defArgs s13) (defBody s13) (defScope s13) .none kV13 dc13 pm13 an13 cd13 ct13), sl13⟩) (c13 : PySem.W.codeIn K cd13 "_law_clips" = true) (k13 : PySem.W.keepIn K (.ref f13) = true) (a14 : PySem.W.nsIn K mainGlobals "_law_run" = some (some (.ref f14))) (l14 : K.lookup f14 = some ⟨oc14, od14, .func (PySem.W.fnOf "_law_run" "_law_run" (defArgs s14) (defBody s14) (defScope s14) .none kV14 dc14 pm14 an14 cd14 ct14), sl14⟩) (c14 : PySem.W.codeIn K cd14 "_law_run" = true) (k14 : PySem.W.keepIn K (.ref f14) = true) (a15 : PySem.W.nsIn K mainGlobals "_law_spans" = some (some (.ref f15))) (l15 : K.lookup f15 = some ⟨oc15, od15, .func (PySem.W.fnOf "_law_spans" "_law_spans" (defArgs s15) (defBody s15) (defScope s15) .none kV15 dc15 pm15 an15 cd15 ct15), sl15⟩) (c15 : PySem.W.codeIn K cd15 "_law_spans" = true) (k15 : PySem.W.keepIn K (.ref f15) = true) (a16 : PySem.W.nsIn K mainGlobals "_law_comes_right" = some (some (.ref f16))) (l16 : K.lookup f16 = some ⟨oc16, od16, .func (PySem.W.fnOf "_law_comes_right" "_law_comes_right" (defArgs s16) (defBody s16) (defScope s16) .none kV16 dc16 pm16 an16 cd16 ct16), sl16⟩) (c16 : PySem.W.codeIn K cd16 "_law_comes_right" = true) (k16 : PySem.W.keepIn K (.ref f16) = true) (a17 : PySem.W.nsIn K mainGlobals "_law_within_right" = some (some (.ref f17))) (l17 : K.lookup f17 = some ⟨oc17, od17, .func (PySem.W.fnOf "_law_within_right" "_law_within_right" (defArgs s17) (defBody s17) (defScope s17) .none kV17 dc17 pm17 an17 cd17 ct17), sl17⟩) (c17 : PySem.W.codeIn K cd17 "_law_within_right" = true) (k17 : PySem.W.keepIn K (.ref f17) = true) (a18 : PySem.W.nsIn K mainGlobals "law" = some (some (.ref f18))) (l18 : K.lookup f18 = some ⟨oc18, od18, .func (PySem.W.fnOf "law" "law" (defArgs s18) (defBody s18) (defScope s18) .none kV18 dc18 pm18 an18 cd18 ct18), sl18⟩) (c18 : PySem.W.codeIn K cd18 "law" = true) (k18 : PySem.W.keepIn K (.ref f18) = true) (tc : cd8 = .ref cL) (to : K.lookup cL = some ⟨ocL, odL, .fields vsL, slL⟩) (tv : vsL[11]? = some (.ref PL)) (tn : K.lookup PL = none) (z0 : PySem.W.nsIn K mainGlobals "divmod" = some none) (z1 : PySem.W.nsIn K mainGlobals "max" = some none) (z2 : PySem.W.nsIn K mainGlobals "min" = some none) (z3 : PySem.W.nsIn K mainGlobals "tuple" = some none) (z4 : PySem.W.nsIn K mainGlobals "sorted" = some none) (z5 : PySem.W.nsIn K mainGlobals "range" = some none) (z6 : PySem.W.nsIn K mainGlobals "len" = some none) (z7 : PySem.W.nsIn K mainGlobals "set" = some none) (z8 : PySem.W.nsIn K mainGlobals "int" = some none) (z9 : PySem.W.nsIn K mainGlobals "list" = some none) (z10 : PySem.W.nsIn K mainGlobals "sum" = some none) (vcg0 : PySem.W.nsIn K mainGlobals "OUT" = some (some gv0)) (vcr0 : ∃ v, RelV v gv0 ∧ ∀ W, RV K W (.str (Str.ofString "out")) v) :
    LawTab l w K 9 "script" "order_at" mg fa d_law := by
  have e := hfa.symm.trans (PySem.W.mg_of X G a18)
  cases e
  have F0' := fun_mk (st := s0) l0 c0 k0
  have b0 := F0'.binds (ps := ["line"]) fun _ _ _ _ _ _ us hl => match us, hl with | [_], _ => rfl
  have F0 := F0'.a
  have m0 := PySem.W.mg_of X G a0
  have F1' := fun_mk (st := s1) l1 c1 k1
  have b1 := F1'.binds (ps := ["line"]) fun _ _ _ _ _ _ us hl => match us, hl with | [_], _ => rfl
  have F1 := F1'.a
  have m1 := PySem.W.mg_of X G a1
  have F2' := fun_mk (st := s2) l2 c2 k2
  have b2 := F2'.binds (ps := ["line", "span"]) fun _ _ _ _ _ _ us hl => match us, hl with | [_, _], _ => rfl
  have F2 := F2'.a
  have m2 := PySem.W.mg_of X G a2
  have F3' := fun_mk (st := s3) l3 c3 k3
  have b3 := F3'.binds (ps := ["line", "clip", "run"]) fun _ _ _ _ _ _ us hl => match us, hl with | [_, _, _], _ => rfl
  have F3 := F3'.a
  have m3 := PySem.W.mg_of X G a3
  have F4' := fun_mk (st := s4) l4 c4 k4
  have b4 := F4'.binds (ps := ["line", "clip", "place", "run"]) fun _ _ _ _ _ _ us hl => match us, hl with | [_, _, _, _], _ => rfl
  have F4 := F4'.a
  have m4 := PySem.W.mg_of X G a4
  have F5' := fun_mk (st := s5) l5 c5 k5
  have b5 := F5'.binds (ps := ["line", "clip", "place", "first", "last"]) fun _ _ _ _ _ _ us hl => match us, hl with | [_, _, _, _, _], _ => rfl
  have F5 := F5'.a
  have m5 := PySem.W.mg_of X G a5
  have F6' := fun_mk (st := s6) l6 c6 k6
  have b6 := F6'.binds (ps := ["line", "clip", "span", "run"]) fun _ _ _ _ _ _ us hl => match us, hl with | [_, _, _, _], _ => rfl
  have F6 := F6'.a
  have m6 := PySem.W.mg_of X G a6
  have F7' := fun_mk (st := s7) l7 c7 k7
  have b7 := F7'.binds (ps := ["line", "clip", "span", "first", "last"]) fun _ _ _ _ _ _ us hl => match us, hl with | [_, _, _, _, _], _ => rfl
  have F7 := F7'.a
  have m7 := PySem.W.mg_of X G a7
  have F8' := fun_mk (st := s8) l8 c8 k8
  have b8 := F8'.binds (ps := ["line", "clips", "run"]) fun _ _ _ _ _ _ us hl => match us, hl with | [_, _, _], _ => rfl
  have F8 := F8'.a
  have m8 := PySem.W.mg_of X G a8
  have F9' := fun_mk (st := s9) l9 c9 k9
  have b9 := F9'.binds (ps := ["line", "clips", "run"]) fun _ _ _ _ _ _ us hl => match us, hl with | [_, _, _], _ => rfl
  have F9 := F9'.a
  have m9 := PySem.W.mg_of X G a9
  have F10' := fun_mk (st := s10) l10 c10 k10
  have b10 := F10'.binds (ps := ["script", "k"]) fun _ _ _ _ _ _ us hl => match us, hl with | [_, _], _ => rfl
  have F10 := F10'.a
  have m10 := PySem.W.mg_of X G a10
  have F11' := fun_mk (st := s11) l11 c11 k11
  have b11 := F11'.binds (ps := ["bag", "many"]) fun _ _ _ _ _ _ us hl => match us, hl with | [_, _], _ => rfl
  have F11 := F11'.a
  have m11 := PySem.W.mg_of X G a11
  have F12' := fun_mk (st := s12) l12 c12 k12
  have b12 := F12'.binds (ps := ["bag", "most"]) fun _ _ _ _ _ _ us hl => match us, hl with | [_, _], _ => rfl
  have F12 := F12'.a
  have m12 := PySem.W.mg_of X G a12
  have F13' := fun_mk (st := s13) l13 c13 k13
  have b13 := F13'.binds (ps := ["bag", "line", "most"]) fun _ _ _ _ _ _ us hl => match us, hl with | [_, _, _], _ => rfl
  have F13 := F13'.a
  have m13 := PySem.W.mg_of X G a13
  have F14' := fun_mk (st := s14) l14 c14 k14
  have b14 := F14'.binds (ps := ["bag", "line"]) fun _ _ _ _ _ _ us hl => match us, hl with | [_, _], _ => rfl
  have F14 := F14'.a
  have m14 := PySem.W.mg_of X G a14
  have F15' := fun_mk (st := s15) l15 c15 k15
  have b15 := F15'.binds (ps := ["line"]) fun _ _ _ _ _ _ us hl => match us, hl with | [_], _ => rfl
  have F15 := F15'.a
  have m15 := PySem.W.mg_of X G a15
  have F16' := fun_mk (st := s16) l16 c16 k16
  have b16 := F16'.binds (ps := ["line", "clip", "place", "run", "rounds"]) fun _ _ _ _ _ _ us hl => match us, hl with | [_, _, _, _, _], _ => rfl
  have F16 := F16'.a
  have m16 := PySem.W.mg_of X G a16
  have F17' := fun_mk (st := s17) l17 c17 k17
  have b17 := F17'.binds (ps := ["line", "clip", "run", "rounds", "last"]) fun _ _ _ _ _ _ us hl => match us, hl with | [_, _, _, _, _], _ => rfl
  have F17 := F17'.a
  have m17 := PySem.W.mg_of X G a17
  have F18' := fun_mk (st := s18) l18 c18 k18
  have b18 := F18'.binds (ps := ["script"]) fun _ _ _ _ _ _ us hl => match us, hl with | [_], _ => rfl
  have F18 := F18'.a
  have m18 := PySem.W.mg_of X G a18
  have y0 := PySem.W.mg_none_of X G z0
  have y1 := PySem.W.mg_none_of X G z1
  have y2 := PySem.W.mg_none_of X G z2
  have y3 := PySem.W.mg_none_of X G z3
  have y4 := PySem.W.mg_none_of X G z4
  have y5 := PySem.W.mg_none_of X G z5
  have y6 := PySem.W.mg_none_of X G z6
  have y7 := PySem.W.mg_none_of X G z7
  have y8 := PySem.W.mg_none_of X G z8
  have y9 := PySem.W.mg_none_of X G z9
  have y10 := PySem.W.mg_none_of X G z10
  have q0 : ∃ u v, mg "OUT" = some u ∧ RelV v u ∧ ∀ W, RV K W (.str (Str.ofString "out")) v := let ⟨v, h1, h2⟩ := vcr0; ⟨_, v, PySem.W.mg_of X G vcg0, h1, h2⟩
  refine ⟨PySem.W.fnOf "law" "law" (defArgs s18) (defBody s18) (defScope s18) .none kV18 dc18 pm18 an18 cd18 ct18, _, _, _, _, _, _, _, a8, l8, rfl, tc, to, rfl, tv, tn, fun s v => .of_eq rfl, fun base _ _ TB => ?_⟩
  have x0 := ok0 (P := l.prog) (w := w) (mg := mg) (base := base) F0 m0 b0
  have x1 := ok1 (P := l.prog) (w := w) (mg := mg) (base := base) F1 m1 b1
  have x10 := ok10 (P := l.prog) (w := w) (mg := mg) (base := base) F10 m10 b10 y6
  have x11 := ok11 (P := l.prog) (w := w) (mg := mg) (base := base) F11 m11 b11
  have x15 := ok15 (P := l.prog) (w := w) (mg := mg) (base := base) F15 m15 b15 y9 y5 y6
  have x2 := ok2 (P := l.prog) (w := w) (mg := mg) (base := base) F2 m2 b2 (x0.mono (by decide)) (x1.mono (by decide)) q0
  have x3 := ok3 (P := l.prog) (w := w) (mg := mg) (base := base) F3 m3 b3 (x0.mono (by decide))
  have x12 := ok12 (P := l.prog) (w := w) (mg := mg) (base := base) F12 m12 b12 (x11.mono (by decide)) y2 y5 y3 y4 y7
  have x13 := ok13 (P := l.prog) (w := w) (mg := mg) (base := base) F13 m13 b13 (x11.mono (by decide)) y5 y3 y8
  have x14 := ok14 (P := l.prog) (w := w) (mg := mg) (base := base) F14 m14 b14 (x11.mono (by decide))
  have x4 := ok4 (P := l.prog) (w := w) (mg := mg) (base := base) F4 m4 b4 (x0.mono (by decide)) (x3.mono (by decide))
  have x6 := ok6 (P := l.prog) (w := w) (mg := mg) (base := base) F6 m6 b6 (x0.mono (by decide)) (x2.mono (by decide)) y0 y1 y2
  have x5 := ok5 (P := l.prog) (w := w) (mg := mg) (base := base) F5 m5 b5 (x0.mono (by decide)) (x4.mono (by decide))
  have x7 := ok7 (P := l.prog) (w := w) (mg := mg) (base := base) F7 m7 b7 (x6.mono (by decide))
  have x16 := ok16 (P := l.prog) (w := w) (mg := mg) (base := base) F16 m16 b16 (x3.mono (by decide)) (x4.mono (by decide)) (x5.mono (by decide))
  have x17 := ok17 (P := l.prog) (w := w) (mg := mg) (base := base) F17 m17 b17 (x7.mono (by decide)) (x15.mono (by decide))
  have x8 := ok8 (P := l.prog) (w := w) (mg := mg) (base := base) F8 m8 b8 a8 (fun c T oc vs h1 h2 h3 h4 => by
    have e1 := tc.symm.trans h1
    cases e1
    rw [to] at h2; cases h2
    cases h3
    rw [tv] at h4; cases h4
    exact TB) (x3.mono (by decide)) y3 y4 y5 y6
  have x9 := ok9 (P := l.prog) (w := w) (mg := mg) (base := base) F9 m9 b9 (x0.mono (by decide)) (x3.mono (by decide)) (x8.mono (by decide)) y3 y5 y6
  exact ok18 (P := l.prog) (w := w) (mg := mg) (base := base) F18 (x3.mono (by decide)) (x8.mono (by decide)) (x9.mono (by decide)) (x10.mono (by decide)) (x11.mono (by decide)) (x12.mono (by decide)) (x13.mono (by decide)) (x14.mono (by decide)) (x16.mono (by decide)) (x17.mono (by decide)) y5 y2 y6 y10
end
end VE
open PySem PySem.W PyProof.Rows
set_option maxHeartbeats 0 in
theorem PySem.Challenge.cw_roundrope_k04_whole_however_far_holds : PySem.Challenge.rw_roundrope_k04_whole_however_far.Holds := by
  w_on; o_law; k_head; (case hw => w_witness2)
  k_fill
  refine VI.walk_ofTab (l := PySem.Challenge.rw_roundrope_k04_whole_however_far) (n := 63) (k := 9) (x := "script") (y := "order_at") (d := VI.d_law) rfl (by decide) rfl ⟨rfl, by decide, by decide⟩ (by decide +kernel) (fun w h Y => PySem.W.km_in_of Y) ?F VI.law_true
  case F =>
    intro w mg fa h KX G hmg
    refine' VE.all_mk KX G hmg ?a0 ?l0 ?c0 ?k0 ?a1 ?l1 ?c1 ?k1 ?a2 ?l2 ?c2 ?k2 ?a3 ?l3 ?c3 ?k3 ?a4 ?l4 ?c4 ?k4 ?a5 ?l5 ?c5 ?k5 ?a6 ?l6 ?c6 ?k6 ?a7 ?l7 ?c7 ?k7 ?a8 ?l8 ?c8 ?k8 ?a9 ?l9 ?c9 ?k9 ?a10 ?l10 ?c10 ?k10 ?a11 ?l11 ?c11 ?k11 ?a12 ?l12 ?c12 ?k12 ?a13 ?l13 ?c13 ?k13 ?a14 ?l14 ?c14 ?k14 ?a15 ?l15 ?c15 ?k15 ?a16 ?l16 ?c16 ?k16 ?a17 ?l17 ?c17 ?k17 ?a18 ?l18 ?c18 ?k18 ?tc ?to ?tv ?tn ?z0 ?z1 ?z2 ?z3 ?z4 ?z5 ?z6 ?z7 ?z8 ?z9 ?z10 ?vcg0 ?vcr0
    (case a0 => k_is); (case l0 => k_is); (case c0 => k_is); (case k0 => k_is); (case a1 => k_is); (case l1 => k_is); (case c1 => k_is); (case k1 => k_is); (case a2 => k_is); (case l2 => k_is); (case c2 => k_is); (case k2 => k_is); (case a3 => k_is); (case l3 => k_is); (case c3 => k_is); (case k3 => k_is); (case a4 => k_is); (case l4 => k_is); (case c4 => k_is); (case k4 => k_is); (case a5 => k_is); (case l5 => k_is); (case c5 => k_is); (case k5 => k_is); (case a6 => k_is); (case l6 => k_is); (case c6 => k_is); (case k6 => k_is); (case a7 => k_is); (case l7 => k_is); (case c7 => k_is); (case k7 => k_is); (case a8 => k_is); (case l8 => k_is); (case c8 => k_is); (case k8 => k_is); (case a9 => k_is); (case l9 => k_is); (case c9 => k_is); (case k9 => k_is); (case a10 => k_is); (case l10 => k_is); (case c10 => k_is); (case k10 => k_is); (case a11 => k_is); (case l11 => k_is); (case c11 => k_is); (case k11 => k_is); (case a12 => k_is); (case l12 => k_is); (case c12 => k_is); (case k12 => k_is); (case a13 => k_is); (case l13 => k_is); (case c13 => k_is); (case k13 => k_is); (case a14 => k_is); (case l14 => k_is); (case c14 => k_is); (case k14 => k_is); (case a15 => k_is); (case l15 => k_is); (case c15 => k_is); (case k15 => k_is); (case a16 => k_is); (case l16 => k_is); (case c16 => k_is); (case k16 => k_is); (case a17 => k_is); (case l17 => k_is); (case c17 => k_is); (case k17 => k_is); (case a18 => k_is); (case l18 => k_is); (case c18 => k_is); (case k18 => k_is); (case tc => exact rfl); (case to => k_is); (case tv => exact rfl); (case tn => kernel_rfl); (case z0 => k_is); (case z1 => k_is); (case z2 => k_is); (case z3 => k_is); (case z4 => k_is); (case z5 => k_is); (case z6 => k_is); (case z7 => k_is); (case z8 => k_is); (case z9 => k_is); (case z10 => k_is); (case vcg0 => k_is)
    (case vcr0 => exact ⟨.str _, ⟨_, rfl⟩, fun W => .str _⟩)
