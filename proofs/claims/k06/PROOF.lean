import PyProof.Rows.All
import Wide.All
import OpenK.AllK
import Wide.FinOn
import HandS.ForMost
import KE.SortData
import KE.DataMinMax
import HandS.Wide
import HandS.Flow
import HandS.Style
import HandS.TupAny
import HandS.Walk
import HandS.Zip
import HandS.IsInst
import HandS.SortInts
import HandS.Conv
import HandS.ExcCtx
import HandS.Lambda
import HandS.WideBits
import HandS.Deep
import HandS.SetFor
import PyProof.SumWalkG
import PyProof.WalksMore
import PyProof.Rows.SetFrom
import HandS.Strs
import PyProof.Draws
import PyProof.EnumMake
import KE.GoesMore
import HandS.Iter
import KE.GoesZip
import KE.GoesEnum
import HandS.More
import HandS.SortOrd
import KE.KIndexOf
import KE.KDictPairs
import PySem.Challenge.RW_roundrope_k06_runs_by_the_hour
set_option Elab.async false
set_option linter.all false
set_option maxRecDepth 100000
set_option maxRecDepth 100000
/-! VI1: a small language of our own: values, a store of objects that change, what a text of it does. -/
namespace VI
open PySem L2

/-- a value: lists and tuples that change no more stand by what they hold; loc: an object of the store -/
inductive AV where
  | non | bl (b : Bool) | int (i : Int) | str (x : Str) | ty (n : String)
  | tup (l : List AV) | lst (l : List AV) | loc (n : Nat) | scr (l : List Int) | ktp (l : List AV) | ftp (l : List AV)

mutual
/-- names no object of the store -/
def AV.noLoc : AV → Bool
  | .tup l => noLocs l
  | .lst l => noLocs l
  | .ktp l => noLocs l
  | .ftp l => noLocs l
  | .loc _ => false
  | _ => true
def noLocs : List AV → Bool
  | [] => true
  | a :: l => a.noLoc && noLocs l
end
mutual
/-- names objects below n alone -/
def AV.und (n : Nat) : AV → Bool
  | .tup l => unds n l
  | .lst l => unds n l
  | .ktp l => unds n l
  | .ftp l => unds n l
  | .loc i => decide (i < n)
  | _ => true
def unds (n : Nat) : List AV → Bool
  | [] => true
  | a :: l => a.und n && unds n l
end
mutual
def AV.toPy : AV → PyData
  | .non => .none
  | .bl b => .bool b
  | .int i => .int i
  | .str x => .str x
  | .tup l => .tuple (toPys l)
  | .lst l => .list (toPys l)
  | _ => .none
def toPys : List AV → List PyData
  | [] => []
  | a :: l => a.toPy :: toPys l
end
/-- data of depth at most k, of Nones, truths, ints, texts, tuples and lists -/
def dep : Nat → AV → Bool
  | _, .non => true
  | _, .bl _ => true
  | _, .int _ => true
  | _, .str x => PySem.PyData.strOk x
  | k + 1, .tup l => l.all (dep k)
  | k + 1, .lst l => l.all (dep k)
  | _, _ => false
mutual
/-- python's == of such data -/
def eqv : AV → AV → Bool
  | .non, b => match b with
    | .non => true
    | _ => false
  | .bl a, b => match b with
    | .bl c => a == c
    | .int j => (if a then 1 else 0) == j
    | _ => false
  | .int i, b => match b with
    | .bl c => i == (if c then 1 else 0)
    | .int j => i == j
    | _ => false
  | .str x, b => match b with
    | .str y => x == y
    | _ => false
  | .tup l, b => match b with
    | .tup m => eqvs l m
    | _ => false
  | .lst l, b => match b with
    | .lst m => eqvs l m
    | _ => false
  | _, _ => false
def eqvs : List AV → List AV → Bool
  | [], m => match m with
    | [] => true
    | _ => false
  | a :: l, m => match m with
    | b :: m => eqv a b && eqvs l m
    | [] => false
end

inductive AObj where
  | lst (l : List AV)
  | dct (lk : Bool) (l : List (Key × AV))
  | dcT (lk : Bool) (l : List (List Key × AV))
  | ins (c : Str) (f : List (Str × AV))
  | tab (x : Str)
def AObj.noLoc : AObj → Bool
  | .lst l => noLocs l
  | .dct _ l => noLocs (l.map (·.2))
  | .dcT _ l => noLocs (l.map (·.2))
  | .ins _ f => noLocs (f.map (·.2))
  | .tab _ => true
/-- a dict that is walked -/
def AObj.lkO : AObj → Bool
  | .dct b _ => b
  | .dcT b _ => b
  | _ => false
abbrev Store := List AObj
abbrev Ev := List (Option AV)

/-- how a piece ends: with a value, by an error, or not told -/
inductive Out (α : Type) where
  | ok (a : α) (S : Store)
  | ex (c : AV) (S : Store)
  | no
def Out.bd {α β : Type} (x : Out α) (f : α → Store → Out β) : Out β := match x with
  | .ok a S => f a S
  | .ex c S => .ex c S
  | .no => .no
@[simp] theorem bd_ok {α β : Type} (a : α) (S : Store) (f : α → Store → Out β) : (Out.ok a S).bd f = f a S := rfl
@[simp] theorem bd_ex {α β : Type} (c : AV) (S : Store) (f : α → Store → Out β) : (Out.ex c S : Out α).bd f = .ex c S := rfl
@[simp] theorem bd_no {α β : Type} (f : α → Store → Out β) : (Out.no : Out α).bd f = .no := rfl
theorem Out.bd_eq {α β : Type} {x : Out α} {f : α → Store → Out β} {b : β} {S' : Store} (h : x.bd f = .ok b S') : ∃ a S, x = .ok a S ∧ f a S = .ok b S' := by
  cases x with
  | ok a S => exact ⟨a, S, rfl, h⟩
  | ex c S => cases h
  | no => cases h

abbrev Fn := List AV → Store → Out AV

/-- a new list: of the store, or one that changes no more -/
def mkL (m : Bool) (l : List AV) (S : Store) : Out AV := if m then .ok (.loc S.length) (S ++ [.lst l]) else .ok (.lst l) S
@[simp] theorem mkL_f (l : List AV) (S : Store) : mkL false l S = .ok (.lst l) S := rfl
@[simp] theorem mkL_t (l : List AV) (S : Store) : mkL true l S = .ok (.loc S.length) (S ++ [.lst l]) := rfl

/-- the objects at n and above written out -/
def frz : Nat → Nat → Store → AV → Option AV
  | 0, _, _, a => if a.noLoc then some a else none
  | k + 1, n, S, a => if a.noLoc then some a else match a with
    | .tup l => (l.mapM (frz k n S)).map .tup
    | .lst l => (l.mapM (frz k n S)).map .lst
    | .loc i => if i < n then some (.loc i) else match S[i]? with
      | some (.lst l) => (l.mapM (frz k n S)).map .lst
      | _ => none
    | .ktp _ => none
    | .ftp _ => none
    | a => some a
theorem frz_of {k n : Nat} {S : Store} {a : AV} (h : a.noLoc = true) : frz k n S a = some a := by
  cases k <;> simp [frz, h]

/-- what is a list's or a tuple's items -/
def itemsOf (S : Store) : AV → Option (List AV)
  | .tup l => some l
  | .lst l => some l
  | .scr l => some (l.map .int)
  | .ktp l => some l
  | .ftp l => some l
  | .loc i => match S[i]? with
    | some (.lst l) => some l
    | _ => none
  | _ => none
def lstOf (S : Store) : AV → Option (List AV)
  | .lst l => some l
  | .loc i => match S[i]? with
    | some (.lst l) => some l
    | _ => none
  | _ => none

def optD {α β : Type} (o : Option α) (f : α → Out β) : Out β := match o with
  | some a => f a
  | none => .no
@[simp] theorem optD_some {α β : Type} (a : α) (f : α → Out β) : optD (some a) f = f a := rfl
@[simp] theorem optD_none {α β : Type} (f : α → Out β) : optD none f = .no := rfl
inductive BOp | add | sub | mul | fdiv | mod | pow | shl | shr | band
  deriving DecidableEq
inductive COp | eq | ne | lt | le | gt | ge | is | isn | isin | nin
  deriving DecidableEq

/-- ints whose products and quotients the model tells of -/
def Fit (i : Int) : Prop := i.natAbs < 2 ^ 8000
instance (i : Int) : Decidable (Fit i) := inferInstanceAs (Decidable (_ < _))

def binD (m : Bool) : BOp → AV → AV → Store → Out AV
  | .add, .int i, .int j, S => .ok (.int (i + j)) S
  | .sub, .int i, .int j, S => .ok (.int (i - j)) S
  | .mul, .int i, .int j, S => if Fit i ∧ Fit j then .ok (.int (i * j)) S else .no
  | .fdiv, .int i, .int j, S => if 0 < j ∧ Fit j then .ok (.int (i / j)) S else .no
  | .mod, .int i, .int j, S => if 0 < j then .ok (.int (i % j)) S else .no
  | .shl, .int i, .int j, S => if 0 ≤ j ∧ j ≤ 1000 ∧ i.natAbs ≤ 1000 then .ok (.int (i * 2 ^ j.toNat)) S else .no
  | .shr, .int i, .int j, S => if 0 ≤ j then .ok (.int (i / 2 ^ j.toNat)) S else .no
  | .band, .int i, .int j, S => if 0 ≤ i ∧ j = 1 then .ok (.int (i % 2)) S else .no
  | .pow, .int i, .int j, S => if 0 ≤ j ∧ j ≤ 1000 ∧ i.natAbs ≤ 1000 then .ok (.int (i ^ j.toNat)) S else .no
  | .add, .str x, .str y, S => if x.length + y.length ≤ sizeLine then .ok (.str (x ++ y)) S else .no
  | .add, .tup l, .tup k, S => if l.length + k.length ≤ sizeLine then .ok (.tup (l ++ k)) S else .no
  | .add, .lst l, b, S => optD (lstOf S b) fun k => if l.length + k.length ≤ sizeLine then mkL m (l ++ k) S else .no
  | .add, .loc i, b, S => optD (lstOf S (.loc i)) fun l => optD (lstOf S b) fun k => if l.length + k.length ≤ sizeLine then mkL m (l ++ k) S else .no
  | .mul, .lst l, .int k, S => if 0 ≤ k ∧ k ≤ 10000000 ∧ l.length * k.toNat ≤ sizeLine then mkL m (List.replicate k.toNat l).flatten S else .no
  | _, _, _, _ => .no

/-- plain things: what «in» compares by value -/
def flatA : AV → Bool
  | .non => true
  | .bl _ => true
  | .int _ => true
  | .str _ => true
  | _ => false
def hasKey {κ : Type} [DecidableEq κ] (k : κ) (l : List (κ × AV)) : Bool := l.any fun p => decide (p.1 = k)
def lookK {κ : Type} [DecidableEq κ] (k : κ) (l : List (κ × AV)) : Option AV := (l.find? fun p => decide (p.1 = k)).map (·.2)
def putA {κ : Type} [DecidableEq κ] (k : κ) (a : AV) (l : List (κ × AV)) : List (κ × AV) :=
  if (l.any fun p => decide (p.1 = k)) = true then l.map (fun p => if p.1 = k then (p.1, a) else p) else l ++ [(k, a)]
def dropA {κ : Type} [DecidableEq κ] (k : κ) (l : List (κ × AV)) : List (κ × AV) := l.filter fun p => decide (p.1 ≠ k)
def keyOf : AV → Option Key
  | .int i => some (.inl i)
  | .str x => some (.inr x)
  | _ => none
def keysOf : AV → Option (List Key)
  | .tup l => l.mapM keyOf
  | _ => none

def eqD (S : Store) (a b : AV) : Option Bool := match frz 4 0 S a with
  | some a => match frz 4 0 S b with
    | some b => if dep 8 a = true ∧ dep 8 b = true then some (eqv a b) else none
    | none => none
  | none => none
def inD (S : Store) (a b : AV) : Option Bool := match b with
  | .loc i => match S[i]? with
    | some (.lst l) => if flatA a = true ∧ l.all flatA = true then some (l.any (eqv a)) else none
    | some (.dct _ l) => match keyOf a with
      | some k => some (hasKey k l)
      | none => none
    | some (.dcT _ l) => match keysOf a with
      | some k => some (hasKey k l)
      | none => none
    | _ => none
  | .lst l => if flatA a = true ∧ l.all flatA = true then some (l.any (eqv a)) else none
  | .tup l => if flatA a = true ∧ l.all flatA = true then some (l.any (eqv a)) else none
  | .ktp l => if flatA a = true ∧ l.all flatA = true then some (l.any (eqv a)) else none
  | .ftp l => if flatA a = true ∧ l.all flatA = true then some (l.any (eqv a)) else none
  | _ => none
def cmpD : COp → AV → AV → Store → Option Bool
  | .eq, a, b, S => eqD S a b
  | .ne, a, b, S => (eqD S a b).map (!·)
  | .lt, .int i, .int j, _ => some (decide (i < j))
  | .le, .int i, .int j, _ => some (decide (i ≤ j))
  | .gt, .int i, .int j, _ => some (decide (j < i))
  | .ge, .int i, .int j, _ => some (decide (j ≤ i))
  | .is, a, .non, _ => match a with
    | .non => some true
    | _ => some false
  | .isn, a, .non, _ => match a with
    | .non => some false
    | _ => some true
  | .is, .bl i, .bl j, _ => some (decide (i = j))
  | .isn, .bl i, .bl j, _ => some (!decide (i = j))
  | .isin, a, b, S => inD S a b
  | .nin, a, b, S => (inD S a b).map (!·)
  | _, _, _, _ => none
def outB (o : Option Bool) (S : Store) : Out AV := match o with
  | some b => .ok (.bl b) S
  | none => .no
def truth (S : Store) : AV → Option Bool
  | .non => some false
  | .bl b => some b
  | .int i => some (decide (i ≠ 0))
  | .str x => if x.length ≤ sizeLine then some (decide (x.length ≠ 0)) else none
  | .tup l => some (!l.isEmpty)
  | .lst l => some (!l.isEmpty)
  | .scr l => some (!l.isEmpty)
  | .loc i => match S[i]? with
    | some (.lst l) => some (!l.isEmpty)
    | some (.dct false l) => some (!l.isEmpty)
    | _ => none
  | _ => none

/-- a place of a list: from the front, or from the end -/
def ixD (a i : AV) (S : Store) : Out AV := match a, i with
  | .loc p, .str x => match S[p]? with
    | some (.dct _ l) => optD (lookK (.inr x) l) fun v => .ok v S
    | _ => .no
  | .loc p, .int k => match S[p]? with
    | some (.lst l) => optD (atI l k) fun v => .ok v S
    | some (.dct _ l) => optD (lookK (.inl k) l) fun v => .ok v S
    | _ => .no
  | .str z, .int k => if z.length ≤ sizeLine then optD (atI z.cps.toList k) fun c => .ok (.str ⟨#[c]⟩) S else .no
  | a, .int k => optD (itemsOf S a) fun l => optD (atI l k) fun v => .ok v S
  | _, _ => .no
/-- l[lo:hi] -/
def cutA (l : List AV) (lo hi : Option Int) : List AV := (l.drop (HT.sIx l.length 0 lo)).take (HT.sIx l.length l.length hi - HT.sIx l.length 0 lo)
def partD : AV → Option (Option Int)
  | .non => some none
  | .int i => some (some i)
  | _ => none
def cutD (m : Bool) (a : AV) (lo hi : Option Int) (S : Store) : Out AV := match a with
  | .tup l => .ok (.tup (cutA l lo hi)) S
  | a => optD (lstOf S a) fun l => mkL m (cutA l lo hi) S
def slD (m : Bool) (a lo hi : AV) (S : Store) : Out AV := optD (partD lo) fun lo => optD (partD hi) fun hi => cutD m a lo hi S
def revD (m : Bool) (a : AV) (S : Store) : Out AV := optD (lstOf S a) fun l => mkL m l.reverse S

/-- targets of a store: a slot, or a tuple of them -/
inductive Tg where
  | n (i : Nat) | nil | cons (t r : Tg)
  | tup (t : Tg)
/-- its slots -/
def Tg.slots : Tg → List Nat
  | .n i => [i]
  | .nil => []
  | .cons t r => t.slots ++ r.slots
  | .tup t => t.slots
def Tg.len : Tg → Nat
  | .cons _ r => r.len + 1
  | _ => 0
mutual
def tgD : Tg → AV → Ev → Option Ev
  | .n i, a, ρ => some (ρ.set i (some a))
  | .tup t, a, ρ => match a with
    | .tup l => tgsD t l ρ
    | _ => none
  | _, _, _ => none
def tgsD : Tg → List AV → Ev → Option Ev
  | .nil, l, ρ => match l with
    | [] => some ρ
    | _ => none
  | .cons t r, l, ρ => match l with
    | x :: l => match tgD t x ρ with
      | some ρ1 => tgsD r l ρ1
      | none => none
    | [] => none
  | _, _, _ => none
end

inductive Prim
  | len | abs | min2 | max2 | minL | maxL | sum | sorted | sortedSet | tuple | list | int | str | all | any | divmod | isi | dict
  | minT | sortT | sumT | minI
  deriving DecidableEq
inductive Mth
  | append | pop0 | pop | index | count | get | popD | join | split | index2
  deriving DecidableEq

def intsOf : List AV → Option (List Int)
  | [] => some []
  | .int i :: l => (intsOf l).map (i :: ·)
  | _ => none
def blsOf : List AV → Option (List Bool)
  | [] => some []
  | .bl i :: l => (blsOf l).map (i :: ·)
  | _ => none
theorem intsOf_map (l : List Int) : intsOf (l.map .int) = some l := by
  induction l with
  | nil => rfl
  | cons a l ih => simp [intsOf, ih]
theorem blsOf_map (l : List Bool) : blsOf (l.map .bl) = some l := by
  induction l with
  | nil => rfl
  | cons a l ih => simp [blsOf, ih]
theorem intsOf_eq : ∀ {l : List AV} {ns : List Int}, intsOf l = some ns → l = ns.map .int
  | [], ns, h => by simp [intsOf] at h; subst h; rfl
  | a :: l, ns, h => by
    cases a <;> simp [intsOf] at h
    obtain ⟨ms, h1, h2⟩ := h
    subst h2
    simp [intsOf_eq h1]
theorem blsOf_eq : ∀ {l : List AV} {ns : List Bool}, blsOf l = some ns → l = ns.map .bl
  | [], ns, h => by simp [blsOf] at h; subst h; rfl
  | a :: l, ns, h => by
    cases a <;> simp [blsOf] at h
    obtain ⟨ms, h1, h2⟩ := h
    subst h2
    simp [blsOf_eq h1]
/-- the order of tuples -/
def ltA (a b : AV) : Bool := PySem.W.dataLt a.toPy b.toPy
def leA : AV → AV → Bool := PySem.W.dataLe false AV.toPy
def tupNE : AV → Bool
  | .tup (_ :: _) => true
  | _ => false
/-- tuples, each like each -/
def likeT (l : List AV) : Bool := l.all (fun a => tupNE a && dep 6 a) && l.all fun a => l.all fun b => PySem.W.alike a.toPy b.toPy
def minA : List AV → Option AV
  | [] => none
  | a :: l => some (l.foldl (fun a y => if ltA y a = true then y else a) a)
/-- ints, rising -/
def insI (x : Int) : List Int → List Int
  | [] => [x]
  | y :: l => if x ≤ y then x :: y :: l else y :: insI x l
def sortI : List Int → List Int
  | [] => []
  | x :: l => insI x (sortI l)
/-- .. each once -/
def dedI : List Int → List Int
  | [] => []
  | x :: l => if x ∈ l then dedI l else x :: dedI l
def leastI : List Int → Option Int
  | [] => none
  | x :: l => match leastI l with
    | none => some x
    | some y => some (if y < x then y else x)
def mostI : List Int → Option Int
  | [] => none
  | x :: l => match mostI l with
    | none => some x
    | some y => some (if x < y then y else x)

def tyB (n : String) : Bool := n == "int" || n == "bool" || n == "str" || n == "tuple" || n == "list"
/-- the kinds that isinstance is asked of -/
def isTy (S : Store) (n : String) : AV → Option Bool
  | .non => some false
  | .bl _ => some (n == "int" || n == "bool")
  | .int _ => some (n == "int")
  | .str _ => some (n == "str")
  | .tup _ => some (n == "tuple")
  | .lst _ => some (n == "list")
  | .loc i => match S[i]? with
    | some (.lst _) => some (n == "list")
    | _ => none
  | _ => none

def lenD (S : Store) : AV → Option Nat
  | .str x => if x.length ≤ sizeLine then some x.length else none
  | .loc i => match S[i]? with
    | some (.lst l) => some l.length
    | some (.dct false l) => some l.length
    | _ => none
  | a => (itemsOf S a).map List.length
/-- what is told of a list of ints, of truths -/
def intsD (S : Store) (a : AV) (f : List Int → Out AV) : Out AV := optD (lstOf S a) fun l => optD (intsOf l) f
/-- .. of a tuple, too -/
def intsQ (S : Store) (a : AV) (f : List Int → Out AV) : Out AV := match a with
  | .tup l => optD (intsOf l) f
  | a => intsD S a f
def blsD (S : Store) (a : AV) (f : List Bool → Out AV) : Out AV := optD (lstOf S a) fun l => optD (blsOf l) f
def primD (m : Bool) (p : Prim) (as : List AV) (S : Store) : Out AV := match p, as with
  | .len, [a] => optD (lenD S a) fun n => .ok (.int n) S
  | .abs, [.int i] => .ok (.int (if i < 0 then -i else i)) S
  | .min2, [.int i, .int j] => .ok (.int (if j < i then j else i)) S
  | .max2, [.int i, .int j] => .ok (.int (if i < j then j else i)) S
  | .minL, [a] => intsD S a fun ns => optD (leastI ns) fun i => .ok (.int i) S
  | .maxL, [a] => intsD S a fun ns => optD (mostI ns) fun i => .ok (.int i) S
  | .sum, [a] => intsD S a fun ns => .ok (.int ns.sum) S
  | .sorted, [a] => intsD S a fun ns => mkL m ((sortI ns).map .int) S
  | .sumT, [.tup l] => optD (intsOf l) fun ns => .ok (.int ns.sum) S
  | .minI, [.tup l] => optD (intsOf l) fun ns => optD (leastI ns) fun i => .ok (.int i) S
  | .minT, [a] => optD (lstOf S a) fun l => if likeT l = true then optD (minA l) fun r => .ok r S else .no
  | .sortT, [a] => optD (lstOf S a) fun l => if likeT l = true then mkL m (l.mergeSort leA) S else .no
  | .sortedSet, [a] => intsD S a fun ns => if ns.length < 61 then mkL m ((sortI (dedI ns)).map .int) S else .no
  | .tuple, [.tup l] => .ok (.tup l) S
  | .tuple, [a] => optD (lstOf S a) fun l => .ok (.tup l) S
  | .list, [.tup l] => mkL m l S
  | .list, [a] => optD (lstOf S a) fun l => mkL m l S
  | .int, [.int i] => .ok (.int i) S
  | .int, [.bl b] => .ok (.int (if b then 1 else 0)) S
  | .all, [a] => blsD S a fun bs => .ok (.bl (bs.all id)) S
  | .any, [a] => blsD S a fun bs => .ok (.bl (bs.any id)) S
  | .divmod, [.int i, .int j] => if 0 < j ∧ j < 1073741824 then .ok (.tup [.int (i / j), .int (i % j)]) S else .no
  | .isi, [a, .ty n] => if tyB n = true then optD (isTy S n a) fun b => .ok (.bl b) S else .no
  | _, _ => .no
def mthD (m : Bool) (p : Mth) (r : AV) (as : List AV) (S : Store) : Out AV := match p, r, as with
  | .append, .loc i, [a] => match S[i]? with
    | some (.lst l) => if l.length < sizeLine then .ok .non (S.set i (.lst (l ++ [a]))) else .no
    | _ => .no
  | .pop0, .loc i, [] => match S[i]? with
    | some (.lst l) => optD l[l.length - 1]? fun v => .ok v (S.set i (.lst l.dropLast))
    | _ => .no
  | .pop, .loc i, [.int k] => match S[i]? with
    | some (.lst l) => if -(2 ^ 63) ≤ k ∧ k < 2 ^ 63 then optD (seqIndex? k l.length) fun j => optD l[j]? fun v => .ok v (S.set i (.lst (l.eraseIdx j))) else .no
    | _ => .no
  | .index, a, [.int k] => intsD S a fun ns => if k ∈ ns then .ok (.int (ns.idxOf k : Nat)) S else .no
  | .index2, a, [.int k, .int i] => intsD S a fun ns => if 0 ≤ i ∧ i ≤ 1000000 ∧ k ∈ ns.drop i.toNat then .ok (.int (i.toNat + (ns.drop i.toNat).idxOf k : Nat)) S else .no
  | .count, a, [.int k] => intsD S a fun ns => .ok (.int (ns.count k : Nat)) S
  | _, _, _ => .no
/-- what a method is called of -/
def rcvOk (p : Mth) (S : Store) (x : AV) : Bool := match p with
  | .get => match x with
    | .loc i => match S[i]? with
      | some (.dct false _) => true
      | some (.dcT false _) => true
      | _ => false
    | _ => false
  | .popD => match x with
    | .loc i => match S[i]? with
      | some (.dct false _) => true
      | _ => false
    | _ => false
  | .join => match x with
    | .str _ => true
    | _ => false
  | .split => match x with
    | .str _ => true
    | _ => false
  | _ => (lstOf S x).isSome
/-- a[i] = v -/
def setD (a i v : AV) (S : Store) : Option Store := match a, i with
  | .loc p, .int k => match S[p]? with
    | some (.lst l) => match ixN l.length k with
      | some j => some (S.set p (.lst (l.set j v)))
      | none => none
    | some (.dct false l) => if l.length < sizeLine then some (S.set p (.dct false (putA (.inl k) v l))) else none
    | _ => none
  | .loc p, .str x => match S[p]? with
    | some (.dct false l) => if l.length < sizeLine then some (S.set p (.dct false (putA (.inr x) v l))) else none
    | _ => none
  | .loc p, .tup ks => match S[p]?, keysOf (.tup ks) with
    | some (.dcT false l), some k => if l.length < sizeLine then some (S.set p (.dcT false (putA k v l))) else none
    | _, _ => none
  | _, _ => none

abbrev Dn := Ev → Store → Out AV
inductive OS where
  | nx (ρ : Ev) (S : Store) | rt (a : AV) (S : Store) | bk (ρ : Ev) (S : Store) | ct (ρ : Ev) (S : Store) | ex (c : AV) (ρ : Ev) (S : Store) | no
/-- a form of the text: which expressions it is made of, what it does with them -/
structure Form where
  mat : Scope → Expr → Option (List Expr)
  sem : List Dn → Dn
structure FormI where
  mat : Scope → Expr → Expr → Option (List Expr)
  sem : List Dn → Ev → Store → Out (List AV × List (Nat × List AV))
structure FormS where
  mat : List Str → Scope → Stmt → Option (List Expr)
  sem : List Dn → Ev → Store → OS

/-- a form of a comparison -/
structure FormC where
  o : COp
  sem : AV → AV → Store → Out AV
/-- a form of a statement that has a block -/
structure FormT where
  mat : List Str → Scope → Stmt → Option (List Stmt)
  sem : (Ev → Store → OS) → Ev → Store → OS

inductive E where
  | ext (F : Form) (l : E) | iext (F : FormI) (l : E)
  | nil | cons (a r : E) | nop
  | v (i : Nat) | c (a : AV) | g (x : Str) (a : AV) | bt (n : String)
  | bin (m : Bool) (o : BOp) (a b : E) | neg (a : E) | not (a : E)
  | cmp (o : COp) (a b : E) | cmx (F : FormC) (a b : E) | chain (o p : COp) (a b c : E)
  | and (a b : E) | or (a b : E) | ite (c a b : E)
  | tup (l : E) | lst (m : Bool) (l : E)
  | ix (a i : E) | sl (m : Bool) (a lo hi : E) | rev (m : Bool) (a : E)
  | call (x : Str) (d : Fn) (l : E) | prim (m : Bool) (p : Prim) (l : E) | met (m : Bool) (p : Mth) (r l : E)
  | comp (m : Bool) (own : List Nat) (t : Tg) (it e cd : E)
  | lrg (m : Bool) (a : E) | sset (m : Bool) (a : E) | lrg2 (m : Bool) (a b : E) | lrg3 (m : Bool) (a b c : E)
  | itv (e : E) | it1 (a : E) | it2 (a b : E) | it3 (a b c : E) | ien (e : E) | izp (a b : E) | ienz (a b : E)

/-- the lists that a walk goes over stand as they stood -/
def Gd (gs : List (Nat × List AV)) (S : Store) : Prop := ∀ p ∈ gs, S[p.1]? = some (.lst p.2)
@[simp] theorem Gd_nil (S : Store) : Gd [] S = True := by simp [Gd]
def wipeE (ρ : Ev) : List Nat → Ev
  | [] => ρ
  | v :: vs => (wipeE ρ vs).set v none

open Classical in
noncomputable def compD (t : Tg) (e : Ev → Store → Out AV) (cd : Ev → Store → Out AV) (gs : List (Nat × List AV)) (ρ : Ev) : List AV → Store → Out (List AV)
  | [], S => if Gd gs S then .ok [] S else .no
  | a :: r, S => if Gd gs S then match tgD t a ρ with
      | some ρ1 => (cd ρ1 S).bd fun b S1 => match b with
        | .bl true => (e ρ1 S1).bd fun x S2 => (compD t e cd gs ρ r S2).bd fun l S3 => if l.length < sizeLine then .ok (x :: l) S3 else .no
        | .bl false => compD t e cd gs ρ r S1
        | _ => .no
      | none => .no
    else .no
open Classical in
noncomputable def forD (t : Tg) (b : Ev → Store → OS) (gs : List (Nat × List AV)) : List AV → Ev → Store → OS
  | [], ρ, S => if Gd gs S then .nx ρ S else .no
  | a :: r, ρ, S => if Gd gs S then match tgD t a ρ with
      | some ρ1 => match b ρ1 S with
        | .nx ρ2 S2 => forD t b gs r ρ2 S2
        | .ct ρ2 S2 => forD t b gs r ρ2 S2
        | .bk ρ2 S2 => .nx ρ2 S2
        | o => o
      | none => .no
    else .no
def whlN (c : Ev → Store → Out AV) (b : Ev → Store → OS) : Nat → Ev → Store → OS
  | 0, _, _ => .no
  | n + 1, ρ, S => match c ρ S with
    | .ok (.bl true) S1 => match b ρ S1 with
      | .nx ρ2 S2 => whlN c b n ρ2 S2
      | .ct ρ2 S2 => whlN c b n ρ2 S2
      | .bk ρ2 S2 => .nx ρ2 S2
      | o => o
    | .ok (.bl false) S1 => .nx ρ S1
    | _ => .no
open Classical in
noncomputable def whlD (c : Ev → Store → Out AV) (b : Ev → Store → OS) (ρ : Ev) (S : Store) : OS :=
  if h : ∃ n, whlN c b n ρ S ≠ .no then whlN c b (Classical.choose h) ρ S else .no

/-- a part of a slice: left out, or an int -/
def E.isNop : E → Bool
  | .nop => true
  | _ => false
def prt (b : Bool) (x : Out AV) : Out AV := if b then x else x.bd fun y S => match y with
  | .int i => .ok (.int i) S
  | _ => .no
/-- a value's truth, as a bool -/
def truD (x : Out AV) : Out AV := x.bd fun a S => outB (truth S a) S

/-- a comprehension's if -/
def cdD (b : Bool) (m : Ev → Store → Out AV) : Ev → Store → Out AV := fun ρ S => if b then .ok (.bl true) S else truD (m ρ S)
def gdOf (x : AV) (l : List AV) : List (Nat × List AV) := match x with
  | .loc i => [(i, l)]
  | _ => []
/-- two lists, or two tuples, and what has to stay -/
def zipD {α : Type} (x y : AV) (S : Store) (f : List AV → List AV → List (Nat × List AV) → Out α) : Out α := match x, y with
  | .tup l, .tup k => f l k []
  | x, y => optD (lstOf S x) fun l => optD (lstOf S y) fun k => f l k (gdOf x l ++ gdOf y k)
/-- enumerate of a tuple, of a list -/
def enD (x : AV) (S : Store) : Out (List AV × List (Nat × List AV)) := match x with
  | .tup l => .ok (l.mapIdx fun k x => .tup [.int k, x], []) S
  | .ftp l => .ok (l.mapIdx fun k x => .tup [.int k, x], []) S
  | x => optD (lstOf S x) fun l => .ok (l.mapIdx fun k x => .tup [.int k, x], gdOf x l) S
/-- how many numbers a range with a step has -/
def rgN (i j k : Int) : Nat := ((j - i + k - 1) / k).toNat
mutual
noncomputable def den : E → Ev → Store → Out AV
  | .v i, ρ, S => match ρ[i]? with
    | some (some a) => .ok a S
    | _ => .no
  | .c a, _, S => .ok a S
  | .g _ a, _, S => .ok a S
  | .bt n, _, S => .ok (.ty n) S
  | .nop, _, S => .ok .non S
  | .bin m o a b, ρ, S => (den a ρ S).bd fun x S1 => (den b ρ S1).bd fun y S2 => binD m o x y S2
  | .neg a, ρ, S => (den a ρ S).bd fun x S1 => match x with
    | .int i => .ok (.int (-i)) S1
    | _ => .no
  | .not a, ρ, S => (den a ρ S).bd fun x S1 => outB ((truth S1 x).map (!·)) S1
  | .cmp o a b, ρ, S => (den a ρ S).bd fun x S1 => (den b ρ S1).bd fun y S2 => outB (cmpD o x y S2) S2
  | .cmx F a b, ρ, S => (den a ρ S).bd fun x S1 => (den b ρ S1).bd fun y S2 => F.sem x y S2
  | .chain o p a b c, ρ, S => (den a ρ S).bd fun x S1 => (den b ρ S1).bd fun y S2 => match cmpD o x y S2 with
    | some true => (den c ρ S2).bd fun z S3 => outB (cmpD p y z S3) S3
    | some false => .ok (.bl false) S2
    | none => .no
  | .and a b, ρ, S => (den a ρ S).bd fun x S1 => match truth S1 x with
    | some true => den b ρ S1
    | some false => .ok x S1
    | none => .no
  | .or a b, ρ, S => (den a ρ S).bd fun x S1 => match truth S1 x with
    | some true => .ok x S1
    | some false => den b ρ S1
    | none => .no
  | .ite c a b, ρ, S => (den c ρ S).bd fun x S1 => match truth S1 x with
    | some true => den a ρ S1
    | some false => den b ρ S1
    | none => .no
  | .tup l, ρ, S => (denL l ρ S).bd fun xs S1 => if xs.length ≤ sizeLine then .ok (.tup xs) S1 else .no
  | .lst m l, ρ, S => (denL l ρ S).bd fun xs S1 => if xs.length ≤ sizeLine then mkL m xs S1 else .no
  | .ext F l, ρ, S => F.sem (denF l) ρ S
  | .ix a i, ρ, S => (den a ρ S).bd fun x S1 => (den i ρ S1).bd fun y S2 => ixD x y S2
  | .sl m a lo hi, ρ, S => (den a ρ S).bd fun x S1 => (prt lo.isNop (den lo ρ S1)).bd fun y S2 => (prt hi.isNop (den hi ρ S2)).bd fun z S3 => slD m x y z S3
  | .rev m a, ρ, S => (den a ρ S).bd fun x S1 => revD m x S1
  | .call _ d l, ρ, S => (denL l ρ S).bd fun xs S1 => d xs S1
  | .prim m p l, ρ, S => (denL l ρ S).bd fun xs S1 => primD m p xs S1
  | .met m p r l, ρ, S => (den r ρ S).bd fun x S1 => if rcvOk p S1 x = true then (denL l ρ S1).bd fun xs S2 => mthD m p x xs S2 else .no
  | .comp m own t it e cd, ρ, S => (denI it ρ S).bd fun w S1 => (compD t (fun ρ S => den e ρ S) (cdD cd.isNop fun ρ S => den cd ρ S) w.2 (wipeE ρ own) w.1 S1).bd fun l S2 => mkL m l S2
  | .lrg2 m a b, ρ, S => (den a ρ S).bd fun x S1 => (den b ρ S1).bd fun y S2 => match x, y with
    | .int i, .int j => if -(2 ^ 60) ≤ i ∧ i ≤ 2 ^ 60 ∧ -(2 ^ 60) ≤ j ∧ j ≤ 2 ^ 60 ∧ j - i ≤ 10000000 then mkL m ((List.range (j - i).toNat).map fun (k : Nat) => .int (i + k)) S2 else .no
    | _, _ => .no
  | .lrg3 m a b c, ρ, S => (den a ρ S).bd fun x S1 => (den b ρ S1).bd fun y S2 => (den c ρ S2).bd fun z S3 => match x, y, z with
    | .int i, .int j, .int k => if -(2 ^ 60) ≤ i ∧ i ≤ 2 ^ 60 ∧ -(2 ^ 60) ≤ j ∧ j ≤ 2 ^ 60 ∧ j - i ≤ 10000000 ∧ 0 < k ∧ k ≤ 1000000 then mkL m ((List.range (rgN i j k)).map fun (t : Nat) => .int (i + t * k)) S3 else .no
    | _, _, _ => .no
  | .sset m a, ρ, S => (den a ρ S).bd fun x S1 => intsQ S1 x fun ns => if ns.length < 61 then mkL m ((sortI (dedI ns)).map .int) S1 else .no
  | .lrg m a, ρ, S => (den a ρ S).bd fun x S1 => match x with
    | .int j => if -(2 ^ 60) ≤ j ∧ j ≤ 10000000 then mkL m ((List.range j.toNat).map fun (k : Nat) => .int k) S1 else .no
    | _ => .no
  | _, _, _ => .no
noncomputable def denL : E → Ev → Store → Out (List AV)
  | .nil, _, S => .ok [] S
  | .cons a r, ρ, S => (den a ρ S).bd fun x S1 => (denL r ρ S1).bd fun xs S2 => .ok (x :: xs) S2
  | _, _, _ => .no
/-- the parts of a form -/
noncomputable def denF : E → List Dn
  | .cons a r => (fun ρ S => den a ρ S) :: denF r
  | _ => []
/-- what is walked: its items, the lists that have to stay -/
noncomputable def denI : E → Ev → Store → Out (List AV × List (Nat × List AV))
  | .itv e, ρ, S => (den e ρ S).bd fun x S1 => match x with
    | .loc i => match S1[i]? with
      | some (.lst l) => .ok (l, [(i, l)]) S1
      | _ => .no
    | .str z => .ok (z.cps.toList.map fun c => .str ⟨#[c]⟩, []) S1
    | x => match itemsOf S1 x with
      | some l => .ok (l, []) S1
      | none => .no
  | .it1 a, ρ, S => (den a ρ S).bd fun x S1 => match x with
    | .int j => if j ≤ 2 ^ 60 ∧ -(2 ^ 60) ≤ j then .ok ((List.range j.toNat).map fun (k : Nat) => .int k, []) S1 else .no
    | _ => .no
  | .it2 a b, ρ, S => (den a ρ S).bd fun x S1 => (den b ρ S1).bd fun y S2 => match x, y with
    | .int i, .int j => if j ≤ 2 ^ 60 ∧ -(2 ^ 60) ≤ j ∧ i ≤ 2 ^ 60 ∧ -(2 ^ 60) ≤ i then .ok ((List.range (j - i).toNat).map fun (k : Nat) => .int (i + k), []) S2 else .no
    | _, _ => .no
  | .it3 a b c, ρ, S => (den a ρ S).bd fun x S1 => (den b ρ S1).bd fun y S2 => (den c ρ S2).bd fun z S3 => match x, y, z with
    | .int i, .int j, .int (-1) => if j ≤ 2 ^ 60 ∧ -(2 ^ 60) ≤ j ∧ i ≤ 2 ^ 60 ∧ -(2 ^ 60) ≤ i then .ok ((List.range (i - j).toNat).map fun (k : Nat) => .int (i - k), []) S3 else .no
    | _, _, _ => .no
  | .ien e, ρ, S => (den e ρ S).bd fun x S1 => enD x S1
  | .izp a b, ρ, S => (den a ρ S).bd fun x S1 => (den b ρ S1).bd fun y S2 => zipD x y S2 fun l k gs => .ok ((l.zip k).map fun p => .tup [p.1, p.2], gs) S2
  | .iext F l, ρ, S => F.sem (denF l) ρ S
  | .ienz a b, ρ, S => (den a ρ S).bd fun x S1 => (den b ρ S1).bd fun y S2 => zipD x y S2 fun l k gs => .ok ((l.zip k).mapIdx fun j p => .tup [.int j, .tup [p.1, p.2]], gs) S2
  | _, _, _ => .no
end

inductive St where
  | ext (F : FormS) (l : E) | opq
  | nil | cons (s r : St)
  | asg (t : Tg) (e : E) | aug (i : Nat) (o : BOp) (e : E) | set (a i e : E) | augS (o : BOp) (a i e : E)
  | ex (e : E) | ret (e : E) | ifs (c : E) (a b : St) | whl (c : E) (b : St) | for (t : Tg) (it : E) (b : St)
  | brk | cont | pass
  | lock (f : Ev → Store → Option Nat) (s : St)
  | tr (F : FormT) (s : St)
/-- what was walked is free again -/
def unlk (i : Nat) : OS → OS
  | .nx ρ S => match S[i]? with
    | some (.dct true l) => .nx ρ (S.set i (.dct false l))
    | _ => .no
  | .rt a S => match S[i]? with
    | some (.dct true l) => .rt a (S.set i (.dct false l))
    | _ => .no
  | .ex c ρ S => match S[i]? with
    | some (.dct true l) => .ex c ρ (S.set i (.dct false l))
    | _ => .no
  | _ => .no
def Out.st (x : Out AV) (ρ : Ev) (f : AV → Store → OS) : OS := match x with
  | .ok a S => f a S
  | _ => .no
@[simp] theorem st_ok (a : AV) (S : Store) (ρ : Ev) (f : AV → Store → OS) : (Out.ok a S).st ρ f = f a S := rfl
@[simp] theorem st_ex (c : AV) (S : Store) (ρ : Ev) (f : AV → Store → OS) : (Out.ex c S).st ρ f = .no := rfl
@[simp] theorem st_no (ρ : Ev) (f : AV → Store → OS) : (Out.no).st ρ f = .no := rfl
noncomputable def denS : St → Ev → Store → OS
  | .nil, ρ, S => .nx ρ S
  | .cons s r, ρ, S => match denS s ρ S with
    | .nx ρ1 S1 => denS r ρ1 S1
    | o => o
  | .asg t e, ρ, S => (den e ρ S).st ρ fun a S1 => match tgD t a ρ with
    | some ρ1 => .nx ρ1 S1
    | none => .no
  | .aug i o e, ρ, S => match ρ[i]? with
    | some (some x) => (den e ρ S).st ρ fun y S1 => match x, y with
      | .int _, .int _ => (binD false o x y S1).st ρ fun z S2 => .nx (ρ.set i (some z)) S2
      | _, _ => .no
    | _ => .no
  | .set a i e, ρ, S => (den e ρ S).st ρ fun v S1 => (den a ρ S1).st ρ fun x S2 => (den i ρ S2).st ρ fun y S3 => match setD x y v S3 with
    | some S4 => .nx ρ S4
    | none => .no
  | .augS o a i e, ρ, S => (den a ρ S).st ρ fun x S1 => (den i ρ S1).st ρ fun y S2 => (ixD x y S2).st ρ fun u S3 => (den e ρ S3).st ρ fun v S4 => match u, v with
      | .int _, .int _ => (binD false o u v S4).st ρ fun z S5 => match setD x y z S5 with
        | some S6 => .nx ρ S6
        | none => .no
      | _, _ => .no
  | .ex e, ρ, S => (den e ρ S).st ρ fun _ S1 => .nx ρ S1
  | .ret e, ρ, S => (den e ρ S).st ρ fun a S1 => .rt a S1
  | .ifs c a b, ρ, S => (truD (den c ρ S)).st ρ fun x S1 => match x with
    | .bl true => denS a ρ S1
    | .bl false => denS b ρ S1
    | _ => .no
  | .whl c b, ρ, S => whlD (fun ρ S => truD (den c ρ S)) (fun ρ S => denS b ρ S) ρ S
  | .for t it b, ρ, S => match denI it ρ S with
    | .ok w S1 => forD t (fun ρ S => denS b ρ S) w.2 w.1 ρ S1
    | _ => .no
  | .lock f s, ρ, S => match f ρ S with
    | some i => match S[i]? with
      | some (.dct false l) => unlk i (denS s ρ (S.set i (.dct true l)))
      | _ => .no
    | none => .no
  | .ext F l, ρ, S => F.sem (denF l) ρ S
  | .tr F s, ρ, S => F.sem (fun ρ S => denS s ρ S) ρ S
  | .opq, _, _ => .no
  | .brk, ρ, S => .bk ρ S
  | .cont, ρ, S => .ct ρ S
  | .pass, ρ, S => .nx ρ S

/-- behind a call: what it made is gone, or stays -/
def TrOk (S S' : Store) : Prop := S.length ≤ S'.length ∧ ∀ i, i < S.length → S'[i]? = S[i]? ∨ ∃ o, S'[i]? = some o ∧ o.noLoc = true
open Classical in
noncomputable def fin (keep : Bool) (S : Store) (r : AV) (S' : Store) : Out AV :=
  if keep then .ok r S' else if TrOk S S' then match frz 4 S.length S' r with
    | some r => .ok r (S'.take S.length)
    | none => .no
  else .no
noncomputable def mkFn (keep : Bool) (np n : Nat) (b : St) : Fn := fun as S =>
  if as.length = np then match denS b (as.map some ++ List.replicate (n - np) none) S with
    | .rt r S' => fin keep S r S'
    | .nx _ S' => fin keep S .non S'
    | .ex c _ S' => (fin keep S c S').bd fun c S => .ex c S
    | _ => .no
  else .no
end VI

set_option maxRecDepth 100000
/-! VI2: how the store of VI1 stands in the layer's heap. -/
namespace VI
open PySem PySem.Spec PyProof.Rows L2

/-- where the store's objects stand; hid: lists that are just being filled -/
structure Wd where
  φ : Nat → Addr
  n : Nat
  hid : Addr → Prop
  H : Hp
  /-- what is walked just now -/
  lkd : Addr → Prop
/-- what changes no more -/
def Wd.stb (W : Wd) (a : Addr) : Prop := ¬ W.hid a ∧ ∀ i, i < W.n → W.φ i ≠ a

section
variable (K : PySem.W.Frag)
mutual
inductive RV (W : Wd) : AV → V → Prop
  | non : RV W .non .non
  | bl (b : Bool) : RV W (.bl b) (.bl b)
  | int (i : Int) : RV W (.int i) (.int i)
  | str (x : Str) : RV W (.str x) (.str x)
  | ty (n : String) : RV W (.ty n) (.ty n)
  | tup {a : Addr} {xs : List V} {l : List AV} : W.H a = some (.tup xs) → W.stb a → RVs W l xs → RV W (.tup l) (.ref a)
  | ktup {a : Addr} {xs : List V} {l : List AV} : (∀ H, SqT K H a xs) → RVs W l xs → RV W (.ktp l) (.ref a)
  | ftup {a : Addr} {o : Obj} {xs : List V} {l : List AV} : W.H a = some (.frz o (.tup xs)) → o.dict = none → W.stb a → RVs W l xs → RV W (.ftp l) (.ref a)
  | lst {a : Addr} {xs : List V} {l : List AV} : W.H a = some (.lst xs) → W.stb a → RVs W l xs → RV W (.lst l) (.ref a)
  | loc {i : Nat} : i < W.n → RV W (.loc i) (.ref (W.φ i))
  | scr {a : Addr} {o : Obj} {l : List Int} : W.H a = some (.frz o (.lst (l.map V.int))) → W.stb a → RV W (.scr l) (.ref a)
  | scl {a : Addr} {l : List Int} : W.H a = some (.lst (l.map V.int)) → W.stb a → RV W (.scr l) (.ref a)
  | kscr {a : Addr} {l : List Int} : (∀ H, SqL K H a (l.map V.int)) → RV W (.scr l) (.ref a)
inductive RVs (W : Wd) : List AV → List V → Prop
  | nil : RVs W [] []
  | cons {a : AV} {x : V} {l : List AV} {xs : List V} : RV W a x → RVs W l xs → RVs W (a :: l) (x :: xs)
end
end
structure Lw (W W' : Wd) : Prop where
  n : W.n ≤ W'.n
  φ : ∀ i, i < W.n → W'.φ i = W.φ i
  stb : ∀ a o, W.H a = some o → W.stb a → W'.H a = some o ∧ W'.stb a
  lk : W'.lkd = W.lkd
  ll : ∀ a u, W.lkd a → W.H a = some u → W'.H a = some u
structure Le (W W' : Wd) : Prop where
  n : W.n ≤ W'.n
  φ : ∀ i, i < W.n → W'.φ i = W.φ i
  hid : W'.hid = W.hid
  stb : ∀ a o, W.H a = some o → W.stb a → W'.H a = some o ∧ W'.stb a
  hh : ∀ a u, W.hid a → W.H a = some u → W'.H a = some u
  lk : W'.lkd = W.lkd
  ll : ∀ a u, W.lkd a → W.H a = some u → W'.H a = some u
theorem Le.lw {W W' : Wd} (h : Le W W') : Lw W W' := ⟨h.n, h.φ, h.stb, h.lk, h.ll⟩
theorem Lw.le {W W' : Wd} (h : Lw W W') (e : W'.hid = W.hid) (hh : ∀ a u, W.hid a → W.H a = some u → W'.H a = some u) : Le W W' := ⟨h.n, h.φ, e, h.stb, hh, h.lk, h.ll⟩
theorem Lw.refl (W : Wd) : Lw W W := ⟨Nat.le_refl _, fun _ _ => rfl, fun _ _ h s => ⟨h, s⟩, rfl, fun _ _ _ h => h⟩
theorem Lw.trans {A B C : Wd} (h : Lw A B) (k : Lw B C) : Lw A C :=
  ⟨Nat.le_trans h.n k.n, fun i hi => (k.φ i (Nat.lt_of_lt_of_le hi h.n)).trans (h.φ i hi), fun a o e s => let ⟨e1, s1⟩ := h.stb a o e s; k.stb a o e1 s1, k.lk.trans h.lk, fun a u q e => k.ll a u (by rw [h.lk]; exact q) (h.ll a u q e)⟩
theorem Le.refl (W : Wd) : Le W W := ⟨Nat.le_refl _, fun _ _ => rfl, rfl, fun _ _ h s => ⟨h, s⟩, fun _ _ _ h => h, rfl, fun _ _ _ h => h⟩
theorem Le.trans {A B C : Wd} (h : Le A B) (k : Le B C) : Le A C := (h.lw.trans k.lw).le (k.hid.trans h.hid) fun a u q e => k.hh a u (by rw [h.hid]; exact q) (h.hh a u q e)

section
variable {K : PySem.W.Frag} {W W' : Wd}
mutual
theorem RV.mw (L : Lw W W') : ∀ {a : AV} {x : V}, RV K W a x → RV K W' a x
  | _, _, .non => .non
  | _, _, .bl b => .bl b
  | _, _, .int i => .int i
  | _, _, .str x => .str x
  | _, _, .ty n => .ty n
  | _, _, .tup h s r => let ⟨h', s'⟩ := L.stb _ _ h s; .tup h' s' (RVs.mw L r)
  | _, _, .ktup h r => .ktup h (RVs.mw L r)
  | _, _, .ftup h e s r => let ⟨h', s'⟩ := L.stb _ _ h s; .ftup h' e s' (RVs.mw L r)
  | _, _, .lst h s r => let ⟨h', s'⟩ := L.stb _ _ h s; .lst h' s' (RVs.mw L r)
  | _, _, .loc (i := i) h => by rw [← L.φ i h]; exact .loc (Nat.lt_of_lt_of_le h L.n)
  | _, _, .scr h s => let ⟨h', s'⟩ := L.stb _ _ h s; .scr h' s'
  | _, _, .scl h s => let ⟨h', s'⟩ := L.stb _ _ h s; .scl h' s'
  | _, _, .kscr h => .kscr h
theorem RVs.mw (L : Lw W W') : ∀ {l : List AV} {xs : List V}, RVs K W l xs → RVs K W' l xs
  | _, _, .nil => .nil
  | _, _, .cons h r => .cons (RV.mw L h) (RVs.mw L r)
end
theorem RV.mono (L : Le W W') {a : AV} {x : V} (r : RV K W a x) : RV K W' a x := r.mw L.lw
theorem RVs.mono (L : Le W W') {l : List AV} {xs : List V} (r : RVs K W l xs) : RVs K W' l xs := r.mw L.lw
theorem RVs.len : ∀ {l : List AV} {xs : List V}, RVs K W l xs → l.length = xs.length
  | _, _, .nil => rfl
  | _, _, .cons _ r => by rw [List.length_cons, List.length_cons, RVs.len r]
theorem RVs.get : ∀ {l : List AV} {xs : List V} {i : Nat} {a : AV}, RVs K W l xs → l[i]? = some a → ∃ x, xs[i]? = some x ∧ RV K W a x
  | _, _, _, _, .nil, e => by simp at e
  | _, _, 0, _, .cons h _, e => by simp at e; subst e; exact ⟨_, rfl, h⟩
  | _, _, i + 1, _, .cons _ r, e => by simpa using RVs.get r (i := i) (by simpa using e)
theorem RVs.getV : ∀ {l : List AV} {xs : List V} {i : Nat} {x : V}, RVs K W l xs → xs[i]? = some x → ∃ a, l[i]? = some a ∧ RV K W a x
  | _, _, _, _, .nil, e => by simp at e
  | _, _, 0, _, .cons h _, e => by simp at e; subst e; exact ⟨_, rfl, h⟩
  | _, _, i + 1, _, .cons _ r, e => by simpa using RVs.getV r (i := i) (by simpa using e)
theorem RVs.append : ∀ {l m : List AV} {xs ys : List V}, RVs K W l xs → RVs K W m ys → RVs K W (l ++ m) (xs ++ ys)
  | _, _, _, _, .nil, r => r
  | _, _, _, _, .cons h t, r => .cons h (RVs.append t r)
theorem RVs.take : ∀ {l : List AV} {xs : List V} (n : Nat), RVs K W l xs → RVs K W (l.take n) (xs.take n)
  | _, _, 0, _ => by simp; exact .nil
  | _, _, _ + 1, .nil => .nil
  | _, _, n + 1, .cons h r => .cons h (RVs.take n r)
theorem RVs.drop : ∀ {l : List AV} {xs : List V} (n : Nat), RVs K W l xs → RVs K W (l.drop n) (xs.drop n)
  | _, _, 0, r => r
  | _, _, _ + 1, .nil => .nil
  | _, _, n + 1, .cons _ r => RVs.drop n r
theorem RVs.set : ∀ {l : List AV} {xs : List V} (i : Nat) {a : AV} {x : V}, RVs K W l xs → RV K W a x → RVs K W (l.set i a) (xs.set i x)
  | _, _, _, _, _, .nil, _ => .nil
  | _, _, 0, _, _, .cons _ r, h => .cons h r
  | _, _, i + 1, _, _, .cons q r, h => .cons q (RVs.set i r h)
theorem RVs.eraseIdx : ∀ {l : List AV} {xs : List V} (i : Nat), RVs K W l xs → RVs K W (l.eraseIdx i) (xs.eraseIdx i)
  | _, _, _, .nil => .nil
  | _, _, 0, .cons _ r => r
  | _, _, i + 1, .cons q r => .cons q (RVs.eraseIdx i r)
theorem RVs.reverse {l : List AV} {xs : List V} (h : RVs K W l xs) : RVs K W l.reverse xs.reverse := by
  induction l generalizing xs with
  | nil => cases h; exact .nil
  | cons a l ih =>
    cases h with
    | cons p r => rw [List.reverse_cons, List.reverse_cons]; exact (ih r).append (.cons p .nil)
theorem RVs.dropLast {l : List AV} {xs : List V} (h : RVs K W l xs) : RVs K W l.dropLast xs.dropLast := by
  rw [List.dropLast_eq_take, List.dropLast_eq_take, ← h.len]
  exact h.take _
theorem RVs.flat {l : List AV} {xs : List V} (h : RVs K W l xs) : ∀ k : Nat, RVs K W (List.replicate k l).flatten (List.replicate k xs).flatten
  | 0 => .nil
  | k + 1 => by
    rw [List.replicate_succ, List.replicate_succ, List.flatten_cons, List.flatten_cons]
    exact h.append (RVs.flat h k)
theorem RVs.ints : ∀ (ns : List Int), RVs K W (ns.map .int) (ns.map V.int)
  | [] => .nil
  | n :: ns => .cons (.int n) (RVs.ints ns)
theorem RVs.of_ints : ∀ {ns : List Int} {xs : List V}, RVs K W (ns.map .int) xs → xs = ns.map V.int
  | [], _, h => by cases h; rfl
  | n :: ns, _, h => by
    cases h with
    | cons p r =>
      cases p
      rw [RVs.of_ints r]; rfl
theorem RVs.of_bls : ∀ {ns : List Bool} {xs : List V}, RVs K W (ns.map .bl) xs → xs = ns.map V.bl
  | [], _, h => by cases h; rfl
  | n :: ns, _, h => by
    cases h with
    | cons p r =>
      cases p
      rw [RVs.of_bls r]; rfl

/-- entries of a dict -/
def RKs (K : PySem.W.Frag) {κ : Type} (W : Wd) (l : List (κ × AV)) (xs : List (κ × V)) : Prop := l.map (·.1) = xs.map (·.1) ∧ RVs K W (l.map (·.2)) (xs.map (·.2))
theorem RKs.mw {κ : Type} {l : List (κ × AV)} {xs : List (κ × V)} (L : Lw W W') (h : RKs K W l xs) : RKs K W' l xs := ⟨h.1, h.2.mw L⟩
theorem RKs.nil {κ : Type} : RKs K W ([] : List (κ × AV)) [] := ⟨rfl, .nil⟩
theorem RKs.len {κ : Type} {l : List (κ × AV)} {xs : List (κ × V)} (h : RKs K W l xs) : l.length = xs.length := by simpa using h.2.len
theorem RKs.cons_iff {κ : Type} {p : κ × AV} {q : κ × V} {l : List (κ × AV)} {xs : List (κ × V)} : RKs K W (p :: l) (q :: xs) ↔ p.1 = q.1 ∧ RV K W p.2 q.2 ∧ RKs K W l xs := by
  constructor
  · rintro ⟨h1, h2⟩
    simp only [List.map_cons, List.cons.injEq] at h1 h2
    cases h2 with
    | cons a b => exact ⟨h1.1, a, h1.2, b⟩
  · rintro ⟨h1, h2, h3, h4⟩
    exact ⟨by simp [h1, h3], .cons h2 h4⟩
section
variable {κ : Type} [DecidableEq κ]
theorem RKs.cases {motive : List (κ × AV) → List (κ × V) → Prop} {l : List (κ × AV)} {xs : List (κ × V)} (h : RKs K W l xs) (h0 : motive [] [])
    (h1 : ∀ (k : κ) (a : AV) (x : V) l xs, RV K W a x → RKs K W l xs → motive l xs → motive ((k, a) :: l) ((k, x) :: xs)) : motive l xs := by
  induction l generalizing xs with
  | nil => cases xs with
    | nil => exact h0
    | cons q xs => have := h.len; simp at this
  | cons p l ih => cases xs with
    | nil => have := h.len; simp at this
    | cons q xs =>
      obtain ⟨k, a⟩ := p
      obtain ⟨k', x⟩ := q
      obtain ⟨e, r, t⟩ := RKs.cons_iff.mp h
      cases e
      exact h1 k a x l xs r t (ih t)
theorem RKs.hasK {l : List (κ × AV)} {xs : List (κ × V)} (h : RKs K W l xs) (k : κ) : (xs.any fun p => decide (p.1 = k)) = hasKey k l := by
  refine h.cases (motive := fun l xs => (xs.any fun p => decide (p.1 = k)) = hasKey k l) rfl fun q a x l xs _ _ ih => ?_
  simp only [hasKey, List.any_cons] at ih ⊢
  rw [ih]
theorem RKs.look {l : List (κ × AV)} {xs : List (κ × V)} (h : RKs K W l xs) (k : κ) {a : AV} (e : lookK k l = some a) : ∃ x, valV xs k = some x ∧ RV K W a x := by
  revert e
  refine h.cases (motive := fun l xs => lookK k l = some a → ∃ x, valV xs k = some x ∧ RV K W a x) (fun e => by simp [lookK] at e) fun q b x l xs r _ ih e => ?_
  by_cases hq : q = k
  · subst hq
    have e' : b = a := by simpa [lookK] using e
    subst e'
    exact ⟨x, valV_pos rfl, r⟩
  · have e' : lookK k l = some a := by simpa [lookK, List.find?_cons, hq] using e
    obtain ⟨y, h1, h2⟩ := ih e'
    exact ⟨y, by rw [valV_neg hq]; exact h1, h2⟩
theorem RKs.lookN {l : List (κ × AV)} {xs : List (κ × V)} (h : RKs K W l xs) (k : κ) (e : lookK k l = none) : valV xs k = none := by
  revert e
  refine h.cases (motive := fun l xs => lookK k l = none → valV xs k = none) (fun _ => rfl) fun q b x l xs r _ ih e => ?_
  by_cases hq : q = k
  · subst hq
    simp [lookK] at e
  · have e' : lookK k l = none := by simpa [lookK, List.find?_cons, hq] using e
    rw [valV_neg hq]; exact ih e'
theorem RKs.put {l : List (κ × AV)} {xs : List (κ × V)} (h : RKs K W l xs) (k : κ) {a : AV} {x : V} (r : RV K W a x) : RKs K W (putA k a l) (putK xs k x) := by
  have e := h.hasK k
  unfold putA putK
  rw [e]
  unfold hasKey
  by_cases hk : (l.any fun p => decide (p.1 = k)) = true
  · rw [if_pos hk, if_pos hk]
    clear e hk
    refine h.cases (motive := fun l xs => RKs K W (l.map fun p => if p.1 = k then (p.1, a) else p) (xs.map fun kv => if kv.1 = k then (kv.1, x) else kv)) RKs.nil fun q b y l xs r' _ ih => ?_
    rw [List.map_cons, List.map_cons]
    by_cases hq : q = k
    · rw [if_pos hq, if_pos hq]; exact RKs.cons_iff.mpr ⟨rfl, r, ih⟩
    · rw [if_neg hq, if_neg hq]; exact RKs.cons_iff.mpr ⟨rfl, r', ih⟩
  · rw [if_neg hk, if_neg hk]
    refine ⟨by simp [h.1], ?_⟩
    rw [List.map_append, List.map_append]
    exact h.2.append (.cons r .nil)
theorem RKs.drop {l : List (κ × AV)} {xs : List (κ × V)} (h : RKs K W l xs) (k : κ) : RKs K W (dropA k l) (dropK xs k) := by
  refine h.cases (motive := fun l xs => RKs K W (dropA k l) (dropK xs k)) RKs.nil fun q b y l xs r' _ ih => ?_
  unfold dropA dropK at ih ⊢
  rw [List.filter_cons, List.filter_cons]
  by_cases hq : q = k
  · rw [if_neg (by simp [hq]), if_neg (by simp [hq])]; exact ih
  · rw [if_pos (by simp [hq]), if_pos (by simp [hq])]; exact RKs.cons_iff.mpr ⟨rfl, r', ih⟩
end

/-- where the table of a def's inner code objects stands -/
def TabAt (K : PySem.W.Frag) (x : Str) (a : Addr) : Prop :=
  ∃ (f c : Addr) (of oc : Obj) (fd : FuncData) (vs : Array Value), PySem.W.nsIn K mainGlobals x = some (some (.ref f)) ∧ K.lookup f = some of ∧ of.data = .func fd ∧ fd.code = .ref c ∧ K.lookup c = some oc ∧ oc.data = .fields vs ∧ vs[11]? = some (.ref a)
/-- an object of the store, at its address -/
def RO (K : PySem.W.Frag) (W : Wd) (a : Addr) : AObj → Prop
  | .lst l => ∃ xs, W.H a = some (.lst xs) ∧ RVs K W l xs
  | .dct false l => ∃ xs, W.H a = some (.dK xs) ∧ RKs K W l xs
  | .dct true l => W.lkd a ∧ ∃ xs o, W.H a = some (.frz o (.dK xs)) ∧ RKs K W l xs
  | .dcT false l => ∃ xs, W.H a = some (.dT xs) ∧ RKs K W l xs
  | .dcT true l => W.lkd a ∧ ∃ xs o, W.H a = some (.frz o (.dT xs)) ∧ RKs K W l xs
  | .ins c f => ∃ C dx xs, W.H a = some (.ins C dx xs) ∧ PySem.W.nsIn K mainGlobals c = some (some (.ref C)) ∧ RKs K W f xs
  | .tab x => TabAt K x a ∧ ∃ ps : Array Value, W.H a = some (.tbl ps) ∧ TriplesOk ps.toList ∧ ∀ (pos : Pos) (cv : Value), codeAmong pos ps.toList = some cv → ∃ c, cv = .ref c ∧ W.H c = some (LamX.CodeO c (x ++ Str.ofString ".<locals>.<lambda>")) ∧ W.stb c
theorem RO.some {a : Addr} {o : AObj} (h : RO K W a o) : ∃ u, W.H a = some u := by
  cases o with
  | lst l => obtain ⟨xs, e, _⟩ := h; exact ⟨_, e⟩
  | dct b l => cases b with
    | false => obtain ⟨xs, e, _⟩ := h; exact ⟨_, e⟩
    | true => obtain ⟨_, xs, o, e, _⟩ := h; exact ⟨_, e⟩
  | dcT b l => cases b with
    | false => obtain ⟨xs, e, _⟩ := h; exact ⟨_, e⟩
    | true => obtain ⟨_, xs, o, e, _⟩ := h; exact ⟨_, e⟩
  | ins c f => obtain ⟨C, dx, xs, e, _⟩ := h; exact ⟨_, e⟩
  | tab x => obtain ⟨_, ps, e, _⟩ := h; exact ⟨_, e⟩
/-- .. the values within carried to a later world, where the object itself stands as it stood -/
theorem RO.mw {a : Addr} {o : AObj} (L : Lw W W') (e : W'.H a = W.H a) (h : RO K W a o) : RO K W' a o := by
  cases o with
  | lst l => obtain ⟨xs, e1, r⟩ := h; exact ⟨xs, e.trans e1, r.mw L⟩
  | dct c l => cases c with
    | false => obtain ⟨xs, e1, r⟩ := h; exact ⟨xs, e.trans e1, r.mw L⟩
    | true => obtain ⟨q, xs, o, e1, r⟩ := h; exact ⟨by rw [L.lk]; exact q, xs, o, e.trans e1, r.mw L⟩
  | dcT c l => cases c with
    | false => obtain ⟨xs, e1, r⟩ := h; exact ⟨xs, e.trans e1, r.mw L⟩
    | true => obtain ⟨q, xs, o, e1, r⟩ := h; exact ⟨by rw [L.lk]; exact q, xs, o, e.trans e1, r.mw L⟩
  | ins c f => obtain ⟨C, dx, xs, e1, m, r⟩ := h; exact ⟨C, dx, xs, e.trans e1, m, r.mw L⟩
  | tab x => obtain ⟨m, ps, e1, t, r⟩ := h; exact ⟨m, ps, e.trans e1, t, fun pos cv q => let ⟨c, h1, h2, h3⟩ := r pos cv q; let ⟨h4, h5⟩ := L.stb _ _ h2 h3; ⟨c, h1, h4, h5⟩⟩

theorem RO.mono {a : Addr} {o : AObj} (L : Le W W') (e : W'.H a = W.H a) (h : RO K W a o) : RO K W' a o := h.mw L.lw e
structure Rep (K : PySem.W.Frag) (W : Wd) (S : Store) : Prop where
  len : S.length = W.n
  inj : ∀ i j, i < W.n → j < W.n → W.φ i = W.φ j → i = j
  hid : ∀ a, W.hid a → (∃ u, W.H a = some u) ∧ ∀ i, i < W.n → W.φ i ≠ a
  obj : ∀ i o, S[i]? = some o → RO K W (W.φ i) o
  lk : ∀ a, W.lkd a → ∃ i o, S[i]? = some o ∧ W.φ i = a ∧ o.lkO = true
section
variable {S : Store}
theorem Rep.nlk (R : Rep K W S) {i : Nat} {o : AObj} (e : S[i]? = some o) (h : o.lkO = false) : ¬ W.lkd (W.φ i) := fun q => by
  obtain ⟨j, u, e1, e2, e3⟩ := R.lk _ q
  have hi : i < W.n := by rw [← R.len]; exact (List.getElem?_eq_some_iff.mp e).1
  have hj : j < W.n := by rw [← R.len]; exact (List.getElem?_eq_some_iff.mp e1).1
  have := R.inj j i hj hi e2
  subst this
  rw [e] at e1; cases e1
  rw [h] at e3; cases e3
theorem Rep.hlk (R : Rep K W S) {a : Addr} (h : W.hid a) : ¬ W.lkd a := fun q => by
  obtain ⟨j, u, e1, e2, e3⟩ := R.lk _ q
  exact (R.hid a h).2 j (by rw [← R.len]; exact (List.getElem?_eq_some_iff.mp e1).1) e2
theorem Rep.at (R : Rep K W S) {i : Nat} (h : i < W.n) : ∃ u, W.H (W.φ i) = some u := by
  have h' : i < S.length := by rw [R.len]; exact h
  exact (R.obj i _ (List.getElem?_eq_getElem h')).some
/-- what is free is none of ours -/
theorem Rep.free (R : Rep K W S) {p : Addr} (h : W.H p = none) : W.stb p := by
  refine ⟨fun q => ?_, fun i hi e => ?_⟩
  · obtain ⟨⟨u, e⟩, _⟩ := R.hid p q
    rw [h] at e; cases e
  · obtain ⟨u, e'⟩ := R.at hi
    rw [e, h] at e'; cases e'
/-- a new thing is laid -/
def Wd.lay (W : Wd) (p : Addr) (o : HO) : Wd := { W with H := upd W.H p o }
theorem Le.lay {p : Addr} {o : HO} (h : W.H p = none) : Le W (W.lay p o) :=
  ⟨Nat.le_refl _, fun _ _ => rfl, rfl, fun a u e s => ⟨by show upd W.H p o a = _; rw [upd_ne (ne_of_none e h)]; exact e, s⟩, fun a u _ e => by show upd W.H p o a = _; rw [upd_ne (ne_of_none e h)]; exact e, rfl, fun a u _ e => by show upd W.H p o a = _; rw [upd_ne (ne_of_none e h)]; exact e⟩
theorem Rep.lay (R : Rep K W S) {p : Addr} {o : HO} (h : W.H p = none) : Rep K (W.lay p o) S := by
  refine ⟨R.len, R.inj, fun a q => ⟨?_, (R.hid a q).2⟩, fun i u e => ?_, R.lk⟩
  · obtain ⟨⟨u, e⟩, _⟩ := R.hid a q
    exact ⟨u, by show upd W.H p o a = _; rw [upd_ne (ne_of_none e h)]; exact e⟩
  · have r := R.obj i u e
    obtain ⟨v, ev⟩ := r.some
    show RO K (W.lay p o) (W.φ i) u
    exact r.mono (Le.lay h) (by show upd W.H p o (W.φ i) = _; rw [upd_ne (ne_of_none ev h)])
theorem Rep.layStb (R : Rep K W S) {p : Addr} {o : HO} (h : W.H p = none) : (W.lay p o).stb p := R.free h
/-- .. and taken into the store -/
def Wd.add (W : Wd) (p : Addr) (o : HO) : Wd := { W with H := upd W.H p o, n := W.n + 1, φ := fun i => if i = W.n then p else W.φ i }
theorem Le.add {p : Addr} {o : HO} (h : W.H p = none) : Le W (W.add p o) := by
  refine ⟨Nat.le_succ _, fun i hi => if_neg (Nat.ne_of_lt hi), rfl, fun a u e s => ⟨by show upd W.H p o a = _; rw [upd_ne (ne_of_none e h)]; exact e, s.1, fun i hi => ?_⟩, fun a u _ e => by show upd W.H p o a = _; rw [upd_ne (ne_of_none e h)]; exact e, rfl, fun a u _ e => by show upd W.H p o a = _; rw [upd_ne (ne_of_none e h)]; exact e⟩
  show (if i = W.n then p else W.φ i) ≠ a
  split
  · exact (ne_of_none e h).symm
  · exact s.2 i (by have : i < W.n + 1 := hi; omega)
theorem Rep.add (R : Rep K W S) {p : Addr} {o : HO} {ob : AObj} (h : W.H p = none) (r : RO K (W.add p o) p ob) : Rep K (W.add p o) (S ++ [ob]) := by
  have fr := R.free h
  refine ⟨by rw [List.length_append, R.len]; rfl, fun i j hi hj e => ?_, fun a q => ⟨?_, fun i hi => ?_⟩, fun i u e => ?_, fun a q => ?_⟩
  · change i < W.n + 1 at hi
    change j < W.n + 1 at hj
    change (if i = W.n then p else W.φ i) = (if j = W.n then p else W.φ j) at e
    by_cases h1 : i = W.n <;> by_cases h2 : j = W.n
    · omega
    · rw [if_pos h1, if_neg h2] at e; exact absurd e.symm (fr.2 j (by omega))
    · rw [if_neg h1, if_pos h2] at e; exact absurd e (fr.2 i (by omega))
    · rw [if_neg h1, if_neg h2] at e; exact R.inj i j (by omega) (by omega) e
  · obtain ⟨⟨u, e⟩, _⟩ := R.hid a q
    exact ⟨u, by show upd W.H p o a = _; rw [upd_ne (ne_of_none e h)]; exact e⟩
  · show (if i = W.n then p else W.φ i) ≠ a
    split
    · rintro rfl; exact fr.1 q
    · exact (R.hid a q).2 i (by have : i < W.n + 1 := hi; omega)
  · by_cases hi : i < S.length
    · rw [List.getElem?_append_left hi] at e
      have r := R.obj i u e
      obtain ⟨v, ev⟩ := r.some
      have eφ : (W.add p o).φ i = W.φ i := if_neg (by rw [R.len] at hi; omega)
      rw [eφ]
      exact r.mono (Le.add h) (by show upd W.H p o _ = _; rw [upd_ne (ne_of_none ev h)])
    · have hi' : i = S.length := by
        have := (List.getElem?_eq_some_iff.mp e).1
        simp at this; omega
      subst hi'
      have eu : u = ob := by simpa using e.symm
      subst eu
      have eφ : (W.add p o).φ S.length = p := if_pos R.len
      rw [eφ]; exact r
  · obtain ⟨j, u, e1, e2, e3⟩ := R.lk a q
    have hj := (List.getElem?_eq_some_iff.mp e1).1
    exact ⟨j, u, by rw [List.getElem?_append_left hj]; exact e1, (if_neg (by rw [R.len] at hj; omega) : (W.add p o).φ j = W.φ j).trans e2, e3⟩
/-- an object of the store is changed -/
theorem Le.wr (R : Rep K W S) {i : Nat} {o : HO} (hi : i < W.n) (hn : ¬ W.lkd (W.φ i)) : Le W (W.lay (W.φ i) o) :=
  ⟨Nat.le_refl _, fun _ _ => rfl, rfl, fun a u e s => ⟨by show upd W.H _ o a = _; rw [upd_ne (s.2 i hi).symm]; exact e, s⟩, fun a u q e => by show upd W.H _ o a = _; rw [upd_ne ((R.hid a q).2 i hi).symm]; exact e, rfl, fun a u q e => by show upd W.H _ o a = _; rw [upd_ne (fun z => hn (by rw [← z]; exact q))]; exact e⟩
theorem Rep.wr (R : Rep K W S) {i : Nat} {o : HO} {ob : AObj} (hi : i < W.n) (hn : ¬ W.lkd (W.φ i)) (r : RO K (W.lay (W.φ i) o) (W.φ i) ob) : Rep K (W.lay (W.φ i) o) (S.set i ob) := by
  refine ⟨by rw [List.length_set]; exact R.len, R.inj, fun a q => ⟨?_, (R.hid a q).2⟩, fun j u e => ?_, fun a q => ?_⟩
  · obtain ⟨⟨u, e⟩, h2⟩ := R.hid a q
    exact ⟨u, by show upd W.H _ o a = _; rw [upd_ne (h2 i hi).symm]; exact e⟩
  · by_cases hj : j = i
    · subst hj
      rw [List.getElem?_set_self (by rw [R.len]; exact hi)] at e
      cases e
      exact r
    · rw [List.getElem?_set_ne (Ne.symm hj)] at e
      have rj := R.obj j u e
      have hj' : j < W.n := by rw [← R.len]; exact (List.getElem?_eq_some_iff.mp e).1
      show RO K (W.lay (W.φ i) o) (W.φ j) u
      exact rj.mono (Le.wr R hi hn) (by show upd W.H _ o (W.φ j) = _; rw [upd_ne (fun z => hj (R.inj j i hj' hi z))])
  · obtain ⟨j, u, e1, e2, e3⟩ := R.lk a q
    refine ⟨j, u, ?_, e2, e3⟩
    rw [List.getElem?_set_ne]
    · exact e1
    · rintro rfl
      exact hn (by rw [e2]; exact q)
end

/-- the slots -/
structure ER (K : PySem.W.Frag) (W : Wd) (ρ : Ev) (σ : L2.St) : Prop where
  len : ρ.length = σ.length
  at_ : ∀ (i : Nat) (a : AV), ρ[i]? = some (some a) → ∃ x, σ[i]? = some (some x) ∧ RV K W a x
theorem ER.mw {ρ : Ev} {σ : L2.St} (L : Lw W W') (h : ER K W ρ σ) : ER K W' ρ σ := ⟨h.len, fun i a e => let ⟨x, h1, h2⟩ := h.at_ i a e; ⟨x, h1, h2.mw L⟩⟩
theorem ER.mono {ρ : Ev} {σ : L2.St} (L : Le W W') (h : ER K W ρ σ) : ER K W' ρ σ := h.mw L.lw
theorem ER.set {ρ : Ev} {σ : L2.St} (h : ER K W ρ σ) (i : Nat) {a : AV} {x : V} (r : RV K W a x) : ER K W (ρ.set i (some a)) (σ.set i (some x)) := by
  refine ⟨by simpa using h.len, fun j b e => ?_⟩
  by_cases hj : i = j
  · subst hj
    have hl : i < ρ.length := by
      have := (List.getElem?_eq_some_iff.mp e).1
      simpa using this
    rw [List.getElem?_set_self hl] at e
    cases e
    exact ⟨x, List.getElem?_set_self (by rw [← h.len]; exact hl), r⟩
  · rw [List.getElem?_set_ne hj] at e
    obtain ⟨y, h1, h2⟩ := h.at_ j b e
    exact ⟨y, by rw [List.getElem?_set_ne hj]; exact h1, h2⟩
theorem ER.wipe {ρ : Ev} {σ : L2.St} (h : ER K W ρ σ) : ∀ vs : List Nat, ER K W (wipeE ρ vs) (wipe σ vs)
  | [] => h
  | v :: vs => by
    have ih := ER.wipe h vs
    unfold wipeE L2.wipe
    refine ⟨by simpa using ih.len, fun j b e => ?_⟩
    by_cases hj : v = j
    · subst hj
      have hl : v < (wipeE ρ vs).length := by
        have := (List.getElem?_eq_some_iff.mp e).1
        simpa using this
      rw [List.getElem?_set_self hl] at e
      cases e
    · rw [List.getElem?_set_ne hj] at e
      obtain ⟨y, h1, h2⟩ := ih.at_ j b e
      exact ⟨y, by rw [List.getElem?_set_ne hj]; exact h1, h2⟩

/-! ### readings by what a piece does -/
/-- what is known behind a value -/
def Post (K : PySem.W.Frag) (W : Wd) (r : AV) (S' : Store) (Q : VK) : Prop := ∀ W' x, Le W W' → Rep K W' S' → RV K W' r x → Q x W'.H
theorem Post.mono {r : AV} {S' : Store} {Q : VK} (L : Le W W') (h : Post K W r S' Q) : Post K W' r S' Q := fun W2 x L2 R r => h W2 x (L.trans L2) R r
/-- .. behind an outcome -/
def PostO (K : PySem.W.Frag) (W : Wd) (o : Out AV) (Q : VK) : Prop := ∃ r S', o = .ok r S' ∧ Post K W r S' Q
def PostL (K : PySem.W.Frag) (W : Wd) (o : Out (List AV)) (Q : List V → Hp → Prop) : Prop := ∃ r S', o = .ok r S' ∧ ∀ W' xs, Le W W' → Rep K W' S' → RVs K W' r xs → Q xs W'.H
def PostB (K : PySem.W.Frag) (W : Wd) (o : Out AV) (Q : Bool → Hp → Prop) : Prop := ∃ b S', o = .ok (.bl b) S' ∧ ∀ W', Le W W' → Rep K W' S' → Q b W'.H
/-- an exception: its class's name, and what it bears -/
def XR (K : PySem.W.Frag) (W : Wd) (c : AV) (cls : Value) (d : Option Addr) : Prop := match c with
  | .tup [.str n] => d = none ∧ ∃ C, cls = .ref C ∧ PySem.W.nsIn K mainGlobals n = some (some (.ref C))
  | .tup [.str n, .int i, .int j] => ∃ C dx, cls = .ref C ∧ PySem.W.nsIn K mainGlobals n = some (some (.ref C)) ∧ d = some dx ∧ W.H dx = some (.xd [("bucket", .int j), ("spot", .int i)]) ∧ W.stb dx
  | _ => False
theorem XR.mono {c : AV} {cls : Value} {d : Option Addr} (L : Le W W') (h : XR K W c cls d) : XR K W' c cls d := by
  unfold XR at h ⊢
  split at h
  · exact h
  · obtain ⟨C, dx, h1, h2, h3, h4, h5⟩ := h
    obtain ⟨h6, h7⟩ := L.stb _ _ h4 h5
    exact ⟨C, dx, h1, h2, h3, h6, h7⟩
  · exact h
/-- what is known behind an exception -/
def PostX (K : PySem.W.Frag) (W : Wd) (c : AV) (S' : Store) (E : XK) : Prop := ∀ W' cls d, Le W W' → Rep K W' S' → XR K W' c cls d → E cls d W'.H
theorem PostX.mono {c : AV} {S' : Store} {E : XK} (L : Le W W') (h : PostX K W c S' E) : PostX K W' c S' E := fun W2 cls d L2 R r => h W2 cls d (L.trans L2) R r
/-- .. behind an outcome of either kind -/
def PostOX (K : PySem.W.Frag) (W : Wd) (E : XK) (o : Out AV) (Q : VK) : Prop := match o with
  | .ok r S' => Post K W r S' Q
  | .ex c S' => PostX K W c S' E
  | .no => False
theorem PostOX.mono {E : XK} {o : Out AV} {Q : VK} (L : Le W W') (h : PostOX K W E o Q) : PostOX K W' E o Q := by
  cases o with
  | ok r S' => exact Post.mono L h
  | ex c S' => exact PostX.mono L h
  | no => exact h
def PostS (K : PySem.W.Frag) (Wx : WX) (W : Wd) (o : OS) (D : Ends) : Prop := match o with
  | .nx ρ S' => ∀ W' σ, Le W W' → Rep K W' S' → ER K W' ρ σ → D.nx σ W'.H
  | .bk ρ S' => ∀ W' σ, Le W W' → Rep K W' S' → ER K W' ρ σ → D.bk σ W'.H
  | .ct ρ S' => ∀ W' σ, Le W W' → Rep K W' S' → ER K W' ρ σ → D.ct σ W'.H
  | .rt r S' => Post K W r S' D.rt
  | .ex c ρ S' => ∀ W' σ cls d, Le W W' → Rep K W' S' → ER K W' ρ σ → XR K W' c cls d → Wx cls d σ W'.H
  | .no => False
theorem PostO.mono {o : Out AV} {Q : VK} (L : Le W W') : PostO K W o Q → PostO K W' o Q := fun ⟨r, S', e, h⟩ => ⟨r, S', e, h.mono L⟩
theorem PostS.mono {Wx : WX} {o : OS} {D : Ends} (L : Le W W') (h : PostS K Wx W o D) : PostS K Wx W' o D := by
  cases o with
  | nx ρ S' => exact fun W2 σ L2 => h W2 σ (L.trans L2)
  | bk ρ S' => exact fun W2 σ L2 => h W2 σ (L.trans L2)
  | ct ρ S' => exact fun W2 σ L2 => h W2 σ (L.trans L2)
  | rt r S' => exact fun W2 σ L2 => h W2 σ (L.trans L2)
  | ex c ρ S' => exact fun W2 σ cls d L2 => h W2 σ cls d (L.trans L2)
  | no => exact h
/-- a state: slots, heap, and what they stand for -/
structure Stt (K : PySem.W.Frag) (W : Wd) (ρ : Ev) (S : Store) (σ : L2.St) (H : Hp) : Prop where
  hH : W.H = H
  rep : Rep K W S
  er : ER K W ρ σ
def T (K : PySem.W.Frag) (m : Ev → Store → Out AV) : TE := fun σ H Q => ∃ W ρ S, Stt K W ρ S σ H ∧ PostO K W (m ρ S) Q
def TL (K : PySem.W.Frag) (m : Ev → Store → Out (List AV)) : TA := fun σ H Q => ∃ W ρ S, Stt K W ρ S σ H ∧ PostL K W (m ρ S) Q
def TB (K : PySem.W.Frag) (m : Ev → Store → Out AV) : TT := fun σ H Q => ∃ W ρ S, Stt K W ρ S σ H ∧ PostB K W (m ρ S) Q
def TSt (K : PySem.W.Frag) (Wx : WX) (m : Ev → Store → OS) : TS := fun D σ H => ∃ W ρ S, Stt K W ρ S σ H ∧ PostS K Wx W (m ρ S) D
/-- an operation by values: what it does of two values -/
def R2D (K : PySem.W.Frag) (f : AV → AV → Store → Out AV) : R2 := fun x y H Q => ∃ W S a b, W.H = H ∧ Rep K W S ∧ RV K W a x ∧ RV K W b y ∧ PostO K W (f a b S) Q
def RLD (K : PySem.W.Frag) (f : List AV → Store → Out AV) : List V → Hp → VK → Prop := fun xs H Q => ∃ W S as, W.H = H ∧ Rep K W S ∧ RVs K W as xs ∧ PostO K W (f as S) Q

theorem Stt.next {ρ : Ev} {S S' : Store} {σ : L2.St} {H : Hp} (s : Stt K W ρ S σ H) (L : Le W W') (R : Rep K W' S') : Stt K W' ρ S' σ W'.H := ⟨rfl, R, s.er.mono L⟩
theorem T.of {m : Ev → Store → Out AV} {ρ : Ev} {S : Store} {σ : L2.St} {H : Hp} {Q : VK} (s : Stt K W ρ S σ H) (h : PostO K W (m ρ S) Q) : T K m σ H Q := ⟨W, ρ, S, s, h⟩
/-- one piece behind another -/
theorem T.bd {m : Ev → Store → Out AV} {f : AV → Store → Out AV} {ρ : Ev} {S : Store} {σ : L2.St} {H : Hp} {Q Q' : VK} (s : Stt K W ρ S σ H) (h : PostO K W ((m ρ S).bd f) Q)
    (k : ∀ a S1 W1 x, Le W W1 → Stt K W1 ρ S1 σ W1.H → RV K W1 a x → PostO K W1 (f a S1) Q → Q' x W1.H) : T K m σ H Q' := by
  obtain ⟨r, S', e, p⟩ := h
  obtain ⟨a, S1, e1, e2⟩ := Out.bd_eq e
  exact ⟨W, ρ, S, s, a, S1, e1, fun W1 x L1 R1 r1 => k a S1 W1 x L1 (s.next L1 R1) r1 ⟨r, S', e2, p.mono L1⟩⟩
theorem TL.bd {m : Ev → Store → Out (List AV)} {f : List AV → Store → Out AV} {ρ : Ev} {S : Store} {σ : L2.St} {H : Hp} {Q : VK} {Q' : List V → Hp → Prop} (s : Stt K W ρ S σ H) (h : PostO K W ((m ρ S).bd f) Q)
    (k : ∀ a S1 W1 x, Le W W1 → Stt K W1 ρ S1 σ W1.H → RVs K W1 a x → PostO K W1 (f a S1) Q → Q' x W1.H) : TL K m σ H Q' := by
  obtain ⟨r, S', e, p⟩ := h
  obtain ⟨a, S1, e1, e2⟩ := Out.bd_eq e
  exact ⟨W, ρ, S, s, a, S1, e1, fun W1 x L1 R1 r1 => k a S1 W1 x L1 (s.next L1 R1) r1 ⟨r, S', e2, p.mono L1⟩⟩
/-- a new list told -/
theorem PostO.mk {m : Bool} {l : List AV} {S : Store} {Q : VK} {xs : List V} {p : Addr} (h : PostO K W (mkL m l S) Q) (R : Rep K W S) (r : RVs K W l xs) (hp : W.H p = none) : Q (.ref p) (upd W.H p (.lst xs)) := by
  obtain ⟨a, S', e, h⟩ := h
  cases m with
  | false =>
    cases e
    exact h (W.lay p (.lst xs)) _ (Le.lay hp) (R.lay hp) (.lst upd_same (R.layStb hp) (r.mono (Le.lay hp)))
  | true =>
    cases e
    have e : (W.add p (.lst xs)).φ W.n = p := if_pos rfl
    have q := h (W.add p (.lst xs)) (.ref p) (Le.add hp) (R.add hp ⟨xs, upd_same, r.mono (Le.add hp)⟩)
    refine q ?_
    rw [R.len]
    have z : RV K (W.add p (.lst xs)) (.loc W.n) (.ref ((W.add p (.lst xs)).φ W.n)) := .loc (Nat.lt_succ_self _)
    rw [e] at z
    exact z
/-- a new tuple told -/
theorem PostO.tup {l : List AV} {S : Store} {Q : VK} {xs : List V} {p : Addr} (h : PostO K W (.ok (.tup l) S) Q) (R : Rep K W S) (r : RVs K W l xs) (hp : W.H p = none) : Q (.ref p) (upd W.H p (.tup xs)) := by
  obtain ⟨a, S', e, h⟩ := h
  cases e
  exact h (W.lay p (.tup xs)) _ (Le.lay hp) (R.lay hp) (.tup upd_same (R.layStb hp) (r.mono (Le.lay hp)))
/-- the same heap behind it -/
theorem PostO.val {a : AV} {S : Store} {Q : VK} {x : V} (h : PostO K W (.ok a S) Q) (R : Rep K W S) (r : RV K W a x) : Q x W.H := by
  obtain ⟨b, S', e, h⟩ := h
  cases e
  exact h W x (Le.refl W) R r
/-! a list or tuple as the layer's readings want it -/
theorem RV.itT {l : List AV} {x : V} (r : RV K W (.tup l) x) : ∃ a xs, x = .ref a ∧ SqT K W.H a xs ∧ RVs K W l xs := by
  cases r with
  | tup h s r => exact ⟨_, _, rfl, SqT.of h, r⟩
theorem lst_it {S : Store} {a : AV} {x : V} {l : List AV} (R : Rep K W S) (r : RV K W a x) (e : lstOf S a = some l) : ∃ p xs, x = .ref p ∧ W.H p = some (.lst xs) ∧ RVs K W l xs := by
  cases a with
  | lst m =>
    cases e
    cases r with
    | lst h s r => exact ⟨_, _, rfl, h, r⟩
  | loc i =>
    simp only [lstOf] at e
    split at e
    · rename_i m hm
      cases e
      cases r with
      | loc h =>
        obtain ⟨xs, e1, r1⟩ := R.obj i _ hm
        exact ⟨_, _, rfl, e1, r1⟩
    · cases e
  | _ => cases e
theorem scr_it {l : List Int} {x : V} (r : RV K W (.scr l) x) : ∃ p, x = .ref p ∧ SqL K W.H p (l.map V.int) := by
  cases r with
  | scr h s => exact ⟨_, rfl, .inl (.inr ⟨_, h⟩)⟩
  | scl h s => exact ⟨_, rfl, .inl (.inl h)⟩
  | kscr h => exact ⟨_, rfl, h _⟩
theorem items_it {S : Store} {a : AV} {x : V} {l : List AV} (R : Rep K W S) (r : RV K W a x) (e : itemsOf S a = some l) : ∃ p xs, x = .ref p ∧ (SqL K W.H p xs ∨ SqT K W.H p xs) ∧ RVs K W l xs := by
  cases a with
  | tup m =>
    cases e
    obtain ⟨p, xs, h1, h2, h3⟩ := r.itT
    exact ⟨p, xs, h1, .inr h2, h3⟩
  | lst m =>
    obtain ⟨p, xs, h1, h2, h3⟩ := lst_it R r (l := l) (by simpa [lstOf, itemsOf] using e)
    exact ⟨p, xs, h1, .inl (SqL.of h2), h3⟩
  | scr m =>
    cases e
    obtain ⟨p, h1, h2⟩ := scr_it r
    exact ⟨p, _, h1, .inl h2, RVs.ints m⟩
  | ktp m =>
    cases e
    cases r with
    | ktup h r => exact ⟨_, _, rfl, .inr (h _), r⟩
  | ftp m =>
    cases e
    cases r with
    | ftup h _ s r => exact ⟨_, _, rfl, .inr (.inl (.inr ⟨_, h⟩)), r⟩
  | loc i =>
    obtain ⟨p, xs, h1, h2, h3⟩ := lst_it R r (l := l) (by simpa [lstOf, itemsOf] using e)
    exact ⟨p, xs, h1, .inl (SqL.of h2), h3⟩
  | _ => cases e
end
end VI

set_option maxRecDepth 100000
set_option maxHeartbeats 1000000
/-! VI3: the operations. -/
namespace VI
open PySem PySem.Spec PyProof.Rows L2

def opB : BOp → Operator
  | .add => .Add
  | .sub => .Sub
  | .mul => .Mult
  | .fdiv => .FloorDiv
  | .mod => .Mod
  | .pow => .Pow
  | .shl => .LShift
  | .shr => .RShift
  | .band => .BitAnd
def opC : COp → CmpOp
  | .eq => .Eq
  | .ne => .NotEq
  | .lt => .Lt
  | .le => .LtE
  | .gt => .Gt
  | .ge => .GtE
  | .is => .Is
  | .isn => .IsNot
  | .isin => .In
  | .nin => .NotIn
section
variable {K : PySem.W.Frag} {W : Wd} {Q : VK}
theorem PostO.no (h : PostO K W .no Q) : False := by
  obtain ⟨_, _, e, _⟩ := h
  cases e
theorem PostO.opt {α : Type} {o : Option α} {f : α → Out AV} (h : PostO K W (optD o f) Q) : ∃ a, o = some a ∧ PostO K W (f a) Q := by
  cases o with
  | none => exact h.no.elim
  | some a => exact ⟨a, rfl, h⟩
theorem PostO.ite {c : Prop} [Decidable c] {o : Out AV} (h : PostO K W (if c then o else .no) Q) : c ∧ PostO K W o Q := by
  by_cases hc : c
  · rw [if_pos hc] at h; exact ⟨hc, h⟩
  · rw [if_neg hc] at h; exact h.no.elim
end
theorem Fit.log {i : Int} (h : Fit i) : i.natAbs.log2 < 8001 := by
  have h' : i.natAbs < 2 ^ 8000 := h
  by_cases hz : i.natAbs = 0
  · rw [hz]; decide
  · exact Nat.lt_of_lt_of_le ((Nat.log2_lt hz).mpr h') (by decide)
section
variable {X : Cx} {pins : List (Addr × Obj)} {σ : L2.St} {H : Hp} {s : Shared}
theorem op_addV {m : Bool} : OpR X (binaryOp .Add) (R2D X.K (binD m .add)) := by
  rintro pins s σ H x y v u Q I rx ry ⟨W, S, a, b, rfl, R, ra, rb, P⟩
  have lists : ∀ {l k : List AV} {p q : V}, (∃ p' xs, p = .ref p' ∧ W.H p' = some (.lst xs) ∧ RVs X.K W l xs) → (∃ p' xs, q = .ref p' ∧ W.H p' = some (.lst xs) ∧ RVs X.K W k xs) → RelV p v → RelV q u →
      l.length + k.length ≤ sizeLine ∧ PostO X.K W (mkL m (l ++ k) S) Q → wpAny (model X.prog X.w) X.A (binaryOp .Add v u) (EP X pins σ Q) X.xe s := by
    rintro l k p q ⟨p', xs, rfl, h1, r1⟩ ⟨q', ys, rfl, h2, r2⟩ rp rq ⟨hz, P⟩
    exact op_cat pins s σ W.H _ _ v u Q I rp rq ⟨p', q', xs, ys, rfl, rfl, h1, h2, by rw [← r1.len, ← r2.len]; exact hz, fun p hp => P.mk R (r1.append r2) hp⟩
  cases a with
  | int i =>
    cases b with
    | int j =>
      cases ra; cases rb
      exact op_add pins s σ W.H _ _ v u Q I rx ry ⟨i, j, rfl, rfl, P.val R (.int _)⟩
    | _ => exact P.no.elim
  | str i =>
    cases b with
    | str j =>
      cases ra; cases rb
      obtain ⟨hz, P⟩ := P.ite
      exact op_add_str pins s σ W.H _ _ v u Q I rx ry ⟨i, j, rfl, rfl, hz, P.val R (.str _)⟩
    | _ => exact P.no.elim
  | tup l =>
    cases b with
    | tup k =>
      obtain ⟨hz, P⟩ := P.ite
      obtain ⟨p, xs, rfl, h1, r1⟩ := ra.itT
      obtain ⟨q, ys, rfl, h2, r2⟩ := rb.itT
      refine op_catA pins s σ W.H _ _ v u Q I rx ry ⟨p, q, xs, ys, rfl, rfl, h1, h2, by rw [← r1.len, ← r2.len]; exact hz, fun e => ?_, fun _ e => ?_, fun _ _ p hp => P.tup R (r1.append r2) hp⟩
      · subst e
        cases r1
        exact P.val R rb
      · subst e
        cases r2
        rw [List.append_nil] at P
        exact P.val R ra
    | _ => exact P.no.elim
  | lst l =>
    have P' : PostO X.K W (optD (lstOf S b) fun k => if l.length + k.length ≤ sizeLine then mkL m (l ++ k) S else .no) Q := by cases b <;> exact P
    obtain ⟨k, e, P'⟩ := P'.opt
    exact lists (lst_it R ra rfl) (lst_it R rb e) rx ry P'.ite
  | loc i =>
    have P' : PostO X.K W (optD (lstOf S (.loc i)) fun l => optD (lstOf S b) fun k => if l.length + k.length ≤ sizeLine then mkL m (l ++ k) S else .no) Q := by cases b <;> exact P
    obtain ⟨l, e, P'⟩ := P'.opt
    obtain ⟨k, e2, P'⟩ := P'.opt
    exact lists (lst_it R ra e) (lst_it R rb e2) rx ry P'.ite
  | _ => cases b <;> exact P.no.elim
theorem op_subV {m : Bool} : OpR X (binaryOp .Sub) (R2D X.K (binD m .sub)) := by
  rintro pins s σ H x y v u Q I rx ry ⟨W, S, a, b, rfl, R, ra, rb, P⟩
  cases a with
  | int i =>
    cases b with
    | int j =>
      cases ra; cases rb
      exact op_sub pins s σ W.H _ _ v u Q I rx ry ⟨i, j, rfl, rfl, P.val R (.int _)⟩
    | _ => exact P.no.elim
  | _ => cases b <;> exact P.no.elim
theorem op_mulV {m : Bool} : OpR X (binaryOp .Mult) (R2D X.K (binD m .mul)) := by
  rintro pins s σ H x y v u Q I rx ry ⟨W, S, a, b, rfl, R, ra, rb, P⟩
  cases a with
  | int i =>
    cases b with
    | int j =>
      cases ra; cases rb
      obtain ⟨⟨h1, h2⟩, P⟩ := P.ite
      have hc : CMulW i j := by
        have := h1.log
        have := h2.log
        show i.natAbs.log2 + j.natAbs.log2 < 1000000
        omega
      exact op_mulW pins s σ W.H _ _ v u Q I rx ry ⟨i, j, rfl, rfl, hc, P.val R (.int _)⟩
    | _ => exact P.no.elim
  | lst l =>
    cases b with
    | int k =>
      obtain ⟨⟨h1, h2, h3⟩, P⟩ := P.ite
      obtain ⟨p, xs, rfl, e1, r1⟩ := lst_it R ra rfl
      cases rb
      refine op_rep pins s σ W.H _ _ v u Q I rx ry ⟨p, k, xs, rfl, rfl, e1, by omega, by omega, by rw [← r1.len]; exact h3, fun q hq => ?_⟩
      exact P.mk R (r1.flat k.toNat) hq
    | _ => exact P.no.elim
  | _ => cases b <;> exact P.no.elim
theorem op_fdivV {m : Bool} : OpR X (binaryOp .FloorDiv) (R2D X.K (binD m .fdiv)) := by
  rintro pins s σ H x y v u Q I rx ry ⟨W, S, a, b, rfl, R, ra, rb, P⟩
  cases a with
  | int i =>
    cases b with
    | int j =>
      cases ra; cases rb
      obtain ⟨⟨h1, h2⟩, P⟩ := P.ite
      exact op_fdivW pins s σ W.H _ _ v u Q I rx ry ⟨i, j, rfl, rfl, ⟨h1, Nat.lt_of_lt_of_le h2.log (by decide)⟩, P.val R (.int _)⟩
    | _ => exact P.no.elim
  | _ => cases b <;> exact P.no.elim
theorem op_modV {m : Bool} : OpR X (binaryOp .Mod) (R2D X.K (binD m .mod)) := by
  rintro pins s σ H x y v u Q I rx ry ⟨W, S, a, b, rfl, R, ra, rb, P⟩
  cases a with
  | int i =>
    cases b with
    | int j =>
      cases ra; cases rb
      obtain ⟨h1, P⟩ := P.ite
      exact op_mod pins s σ W.H _ _ v u Q I rx ry ⟨i, j, rfl, rfl, h1, P.val R (.int _)⟩
    | _ => exact P.no.elim
  | _ => cases b <;> exact P.no.elim
theorem op_powV {m : Bool} : OpR X (binaryOp .Pow) (R2D X.K (binD m .pow)) := by
  rintro pins s σ H x y v u Q I rx ry ⟨W, S, a, b, rfl, R, ra, rb, P⟩
  cases a with
  | int i =>
    cases b with
    | int j =>
      cases ra; cases rb
      obtain ⟨⟨h1, h2, h3⟩, P⟩ := P.ite
      exact op_pow pins s σ W.H _ _ v u Q I rx ry ⟨i, j, rfl, rfl, ⟨h1, by omega, by omega⟩, P.val R (.int _)⟩
    | _ => exact P.no.elim
  | _ => cases b <;> exact P.no.elim
theorem op_shlV {m : Bool} : OpR X (binaryOp .LShift) (R2D X.K (binD m .shl)) := by
  rintro pins s σ H x y v u Q I rx ry ⟨W, S, a, b, rfl, R, ra, rb, P⟩
  cases a with
  | int i =>
    cases b with
    | int j =>
      cases ra; cases rb
      obtain ⟨⟨h1, h2, h3⟩, P⟩ := P.ite
      exact op_shl pins s σ W.H _ _ v u Q I rx ry ⟨i, j, rfl, rfl, ⟨h1, by omega, by omega⟩, P.val R (.int _)⟩
    | _ => exact P.no.elim
  | _ => cases b <;> exact P.no.elim
theorem op_shrV {m : Bool} : OpR X (binaryOp .RShift) (R2D X.K (binD m .shr)) := by
  rintro pins s σ H x y v u Q I rx ry ⟨W, S, a, b, rfl, R, ra, rb, P⟩
  cases a with
  | int i =>
    cases b with
    | int j =>
      cases ra; cases rb
      obtain ⟨h1, P⟩ := P.ite
      exact op_shr pins s σ W.H _ _ v u Q I rx ry ⟨i, j, rfl, rfl, h1, P.val R (.int _)⟩
    | _ => exact P.no.elim
  | _ => cases b <;> exact P.no.elim
theorem op_bandV {m : Bool} : OpR X (binaryOp .BitAnd) (R2D X.K (binD m .band)) := by
  rintro pins s σ H x y v u Q I rx ry ⟨W, S, a, b, rfl, R, ra, rb, P⟩
  cases a with
  | int i =>
    cases b with
    | int j =>
      cases ra; cases rb
      obtain ⟨⟨h1, h2⟩, P⟩ := P.ite
      subst h2
      obtain ⟨n, rfl⟩ := Int.eq_ofNat_of_zero_le h1
      exact op_odd pins s σ W.H _ _ v u Q I rx ry ⟨n, rfl, rfl, P.val R (.int _)⟩
    | _ => exact P.no.elim
  | _ => cases b <;> exact P.no.elim
/-- the operators that are served -/
def bOk : BOp → Bool
  | .add => true
  | .sub => true
  | .mul => true
  | .fdiv => true
  | .mod => true
  | .pow => true
  | .shl => true
  | .shr => true
  | .band => true
theorem op_binV {m : Bool} (o : BOp) (h : bOk o = true) : OpR X (binaryOp (opB o)) (R2D X.K (binD m o)) := by
  cases o with
  | add => exact op_addV
  | sub => exact op_subV
  | mul => exact op_mulV
  | fdiv => exact op_fdivV
  | mod => exact op_modV
  | pow => exact op_powV
  | shl => exact op_shlV
  | shr => exact op_shrV
  | band => exact op_bandV

/-! comparisons -/
mutual
theorem dp_of {K : PySem.W.Frag} {W : Wd} : ∀ (k : Nat) {a : AV} {x : V}, dep k a = true → RV K W a x → Dp K W.H x a.toPy
  | k, .non, _, _, .non => .non
  | k, .bl _, _, _, .bl b => .bl b
  | k, .int _, _, _, .int i => .int i
  | k, .str _, _, _, .str x => .str x
  | k + 1, .tup l, _, h, .tup e s r => .tup (SqT.of e) (dps_of k (by simpa [dep] using h) r)
  | k + 1, .lst l, _, h, .lst e s r => .lst (SqL.of e) (dps_of k (by simpa [dep] using h) r)
  | 0, .tup l, _, h, _ => by simp [dep] at h
  | 0, .lst l, _, h, _ => by simp [dep] at h
  | 0, .ty _, _, h, _ => by simp [dep] at h
  | _ + 1, .ty _, _, h, _ => by simp [dep] at h
  | 0, .loc _, _, h, _ => by simp [dep] at h
  | _ + 1, .loc _, _, h, _ => by simp [dep] at h
  | 0, .scr _, _, h, _ => by simp [dep] at h
  | _ + 1, .scr _, _, h, _ => by simp [dep] at h
  | 0, .ktp _, _, h, _ => by simp [dep] at h
  | _ + 1, .ktp _, _, h, _ => by simp [dep] at h
  | 0, .ftp _, _, h, _ => by simp [dep] at h
  | _ + 1, .ftp _, _, h, _ => by simp [dep] at h
theorem dps_of {K : PySem.W.Frag} {W : Wd} : ∀ (k : Nat) {l : List AV} {xs : List V}, (∀ a, a ∈ l → dep k a = true) → RVs K W l xs → DpAll K W.H xs (toPys l)
  | _, [], _, _, .nil => .nil
  | k, a :: l, _, h, .cons r t => .cons (dp_of k (h a List.mem_cons_self) r) (dps_of k (fun b hb => h b (List.mem_cons_of_mem _ hb)) t)
end
/-- written out, a value is data of its kind -/
theorem dpF {K : PySem.W.Frag} {W : Wd} {S : Store} (R : Rep K W S) : ∀ (k : Nat) {a b : AV} {x : V} {j : Nat}, frz k 0 S a = some b → dep j b = true → RV K W a x → Dp K W.H x b.toPy := by
  have pure_ : ∀ {a : AV} {x : V} {j : Nat}, dep j a = true → RV K W a x → Dp K W.H x a.toPy := fun h r => dp_of _ h r
  intro k
  induction k with
  | zero =>
    intro a b x j e d r
    simp only [frz] at e
    split at e
    · cases e; exact pure_ d r
    · cases e
  | succ k ih =>
    intro a b x j e d r
    have lists : ∀ {l m : List AV} {xs : List V} {j : Nat}, l.mapM (frz k 0 S) = some m → (∀ c, c ∈ m → dep j c = true) → RVs K W l xs → DpAll K W.H xs (toPys m) := by
      intro l
      induction l with
      | nil =>
        intro m xs j e d r
        cases r
        have e' : m = [] := by simpa using e.symm
        subst e'
        exact .nil
      | cons c l ihl =>
        intro m xs j e d r
        cases r with
        | cons p t =>
          rw [List.mapM_cons] at e
          cases e1 : frz k 0 S c with
          | none => rw [e1] at e; cases e
          | some c' =>
            cases e2 : l.mapM (frz k 0 S) with
            | none => rw [e1, e2] at e; cases e
            | some l' =>
              rw [e1, e2] at e
              have e' : m = c' :: l' := by simpa using e.symm
              subst e'
              exact .cons (ih e1 (d c' List.mem_cons_self) p) (ihl e2 (fun z hz => d z (List.mem_cons_of_mem _ hz)) t)
    simp only [frz] at e
    split at e
    · cases e; exact pure_ d r
    · cases a with
      | tup l =>
        dsimp only at e
        cases e2 : l.mapM (frz k 0 S) with
        | none => rw [e2] at e; cases e
        | some l' =>
          rw [e2] at e
          cases e
          cases j with
          | zero => simp [dep] at d
          | succ j =>
            obtain ⟨p, xs, rfl, h1, r1⟩ := r.itT
            exact .tup h1 (lists e2 (by simpa [dep] using d) r1)
      | lst l =>
        dsimp only at e
        cases e2 : l.mapM (frz k 0 S) with
        | none => rw [e2] at e; cases e
        | some l' =>
          rw [e2] at e
          cases e
          cases j with
          | zero => simp [dep] at d
          | succ j =>
            obtain ⟨p, xs, rfl, h1, r1⟩ := lst_it R r rfl
            exact .lst (SqL.of h1) (lists e2 (by simpa [dep] using d) r1)
      | loc i =>
        simp only [Nat.not_lt_zero, if_false] at e
        cases e1 : S[i]? with
        | none => simp [e1] at e
        | some o =>
          cases o with
          | lst l =>
            simp only [e1] at e
            cases e2 : l.mapM (frz k 0 S) with
            | none => rw [e2] at e; cases e
            | some l' =>
              rw [e2] at e
              cases e
              cases j with
              | zero => simp [dep] at d
              | succ j =>
                obtain ⟨p, xs, rfl, h1, r1⟩ := lst_it R r (l := l) (by simp [lstOf, e1])
                exact .lst (SqL.of h1) (lists e2 (by simpa [dep] using d) r1)
          | _ => simp [e1] at e
      | ktp l => cases e
      | ftp l => cases e
      | _ => cases e; exact pure_ d r
mutual
theorem eqv_py : ∀ (k : Nat) (a b : AV) (j : Nat), dep k a = true → dep j b = true → PyData.eqv a.toPy b.toPy = eqv a b
  | _, .non, b, j, _, h => by cases b <;> first | rfl | (cases j <;> simp [dep] at h)
  | _, .bl x, b, j, _, h => by cases b <;> first | rfl | (cases j <;> simp [dep] at h)
  | _, .int x, b, j, _, h => by cases b <;> first | rfl | (cases j <;> simp [dep] at h)
  | _, .str x, b, j, _, h => by cases b <;> first | rfl | (cases j <;> simp [dep] at h)
  | k + 1, .tup l, b, j, h, h' => by
    cases b with
    | tup m =>
      cases j with
      | zero => simp [dep] at h'
      | succ j => exact eqvs_py k l m j (by simpa [dep] using h) (by simpa [dep] using h')
    | _ => first | rfl | (cases j <;> simp [dep] at h')
  | k + 1, .lst l, b, j, h, h' => by
    cases b with
    | lst m =>
      cases j with
      | zero => simp [dep] at h'
      | succ j => exact eqvs_py k l m j (by simpa [dep] using h) (by simpa [dep] using h')
    | _ => first | rfl | (cases j <;> simp [dep] at h')
  | 0, .tup l, _, _, h, _ => by simp [dep] at h
  | 0, .lst l, _, _, h, _ => by simp [dep] at h
  | k, .ty _, _, _, h, _ => by cases k <;> simp [dep] at h
  | k, .loc _, _, _, h, _ => by cases k <;> simp [dep] at h
  | k, .scr _, _, _, h, _ => by cases k <;> simp [dep] at h
  | k, .ktp _, _, _, h, _ => by cases k <;> simp [dep] at h
  | k, .ftp _, _, _, h, _ => by cases k <;> simp [dep] at h
theorem eqvs_py : ∀ (k : Nat) (l m : List AV) (j : Nat), (∀ a, a ∈ l → dep k a = true) → (∀ a, a ∈ m → dep j a = true) → PyData.eqvAll (toPys l) (toPys m) = eqvs l m
  | _, [], [], _, _, _ => rfl
  | _, [], _ :: _, _, _, _ => rfl
  | _, _ :: _, [], _, _, _ => rfl
  | k, a :: l, b :: m, j, h, h' => by
    have e1 := eqv_py k a b j (h a List.mem_cons_self) (h' b List.mem_cons_self)
    have e2 := eqvs_py k l m j (fun z hz => h z (List.mem_cons_of_mem _ hz)) (fun z hz => h' z (List.mem_cons_of_mem _ hz))
    show (PyData.eqv a.toPy b.toPy && PyData.eqvAll (toPys l) (toPys m)) = (eqv a b && eqvs l m)
    rw [e1, e2]
end
mutual
theorem dep_lay : ∀ (k : Nat) (a : AV), dep k a = true → a.toPy.canLay0 = true ∧ a.toPy.depth ≤ k
  | k, .non, _ => ⟨by simp [AV.toPy, PyData.canLay0], by simp [AV.toPy, PyData.depth]⟩
  | k, .bl _, _ => ⟨by simp [AV.toPy, PyData.canLay0], by simp [AV.toPy, PyData.depth]⟩
  | k, .int _, _ => ⟨by simp [AV.toPy, PyData.canLay0], by simp [AV.toPy, PyData.depth]⟩
  | k, .str x, h => ⟨by cases k <;> simpa [AV.toPy, PyData.canLay0, dep] using h, by simp [AV.toPy, PyData.depth]⟩
  | k + 1, .tup l, h => by
    obtain ⟨h1, h2⟩ := deps_lay k l (by simpa [dep] using h)
    exact ⟨by simpa [AV.toPy, PyData.canLay0] using h1, by simp only [AV.toPy, PyData.depth]; omega⟩
  | k + 1, .lst l, h => by
    obtain ⟨h1, h2⟩ := deps_lay k l (by simpa [dep] using h)
    exact ⟨by simpa [AV.toPy, PyData.canLay0] using h1, by simp only [AV.toPy, PyData.depth]; omega⟩
  | 0, .tup l, h => by simp [dep] at h
  | 0, .lst l, h => by simp [dep] at h
  | k, .ty _, h => by cases k <;> simp [dep] at h
  | k, .loc _, h => by cases k <;> simp [dep] at h
  | k, .scr _, h => by cases k <;> simp [dep] at h
  | k, .ktp _, h => by cases k <;> simp [dep] at h
  | k, .ftp _, h => by cases k <;> simp [dep] at h
theorem deps_lay : ∀ (k : Nat) (l : List AV), (∀ a, a ∈ l → dep k a = true) → PyData.canLayAll0 (toPys l) = true ∧ PyData.depthAll (toPys l) ≤ k
  | k, [], _ => ⟨by simp [toPys, PyData.canLayAll0], by simp [toPys, PyData.depthAll]⟩
  | k, a :: l, h => by
    obtain ⟨h1, h2⟩ := dep_lay k a (h a List.mem_cons_self)
    obtain ⟨h3, h4⟩ := deps_lay k l fun z hz => h z (List.mem_cons_of_mem _ hz)
    exact ⟨by simp [toPys, PyData.canLayAll0, h1, h3], by simp only [toPys, PyData.depthAll]; omega⟩
end
/-- == -/
theorem eqD_ok {W : Wd} {S : Store} {a b : AV} {x y : V} {c : Bool} (R : Rep X.K W S) (ra : RV X.K W a x) (rb : RV X.K W b y) (e : eqD S a b = some c) :
    ∃ d d', Dp X.K W.H x d ∧ Dp X.K W.H y d' ∧ SeqAt.shaped d = true ∧ SeqAt.shaped d' = true ∧ PyData.eqv d d' = c := by
  unfold eqD at e
  split at e
  · rename_i a' ea
    split at e
    · rename_i b' eb
      split at e
      · rename_i h
        have sh : ∀ {a : AV}, dep 8 a = true → SeqAt.shaped a.toPy = true := fun {a} h => by
          obtain ⟨h1, h2⟩ := dep_lay 8 a h
          unfold SeqAt.shaped
          rw [h1]
          simp; omega
        exact ⟨_, _, dpF R 4 ea h.1 ra, dpF R 4 eb h.2 rb, sh h.1, sh h.2, by rw [eqv_py 8 _ _ 8 h.1 h.2]; exact Option.some.inj e⟩
      · cases e
    · cases e
  · cases e
theorem flat_ok {W : Wd} {a : AV} {x : V} (h : flatA a = true) (r : RV X.K W a x) : flatV x = true := by
  cases r <;> first | rfl | cases h
theorem flats_ok {W : Wd} : ∀ {l : List AV} {xs : List V}, l.all flatA = true → RVs X.K W l xs → xs.all flatV = true
  | _, _, _, .nil => rfl
  | _, _, h, .cons p r => by
    rw [List.all_cons, Bool.and_eq_true] at h
    rw [List.all_cons, flat_ok h.1 p, flats_ok h.2 r]
    rfl
theorem eqv_eqV {W : Wd} {a b : AV} {x y : V} (h : flatA a = true) (h' : flatA b = true) (r : RV X.K W a x) (r' : RV X.K W b y) : eqV y x = eqv a b := by
  cases r <;> cases r' <;> first | (cases h; done) | (cases h'; done) | skip
  all_goals simp only [eqV, eqv]
  all_goals first | rfl | exact BEq.comm | skip
theorem any_ok {W : Wd} {a : AV} {x : V} (h : flatA a = true) (r : RV X.K W a x) : ∀ {l : List AV} {xs : List V}, l.all flatA = true → RVs X.K W l xs → inV x xs = l.any (eqv a)
  | _, _, _, .nil => rfl
  | _, _, h', .cons p t => by
    rw [List.all_cons, Bool.and_eq_true] at h'
    have ih := any_ok h r h'.2 t
    unfold inV at ih ⊢
    rw [List.any_cons, List.any_cons, ih, eqv_eqV h h'.1 r p]
end
end VI

set_option maxRecDepth 100000
set_option maxHeartbeats 1000000
/-! VP: min and sorted of tuples; an index from a place on; a count. -/
namespace VI
open PySem PySem.Spec PyProof.Rows L2 PySem.W
theorem toPys_map : ∀ l : List AV, toPys l = l.map AV.toPy
  | [] => rfl
  | a :: l => by show a.toPy :: toPys l = _; rw [toPys_map l]; rfl
mutual
theorem toPy_inj : ∀ (k : Nat) (a b : AV), dep k a = true → dep k b = true → a.toPy = b.toPy → a = b
  | k, .non, b, _, h, e => by cases b <;> first | rfl | (cases e; done) | (exfalso; cases k <;> simp [dep] at h)
  | k, .bl c, b, _, h, e => by cases b <;> first | (cases e; rfl) | (cases e; done) | (exfalso; cases k <;> simp [dep] at h)
  | k, .int c, b, _, h, e => by cases b <;> first | (cases e; rfl) | (cases e; done) | (exfalso; cases k <;> simp [dep] at h)
  | k, .str c, b, _, h, e => by cases b <;> first | (cases e; rfl) | (cases e; done) | (exfalso; cases k <;> simp [dep] at h)
  | k + 1, .tup l, b, g, h, e => by
    cases b with
    | tup m =>
      have e' : toPys l = toPys m := PyData.tuple.inj e
      rw [toPys_inj k l m (by simpa [dep] using g) (by simpa [dep] using h) e']
    | _ => first | (cases e; done) | (exfalso; simp [dep] at h)
  | k + 1, .lst l, b, g, h, e => by
    cases b with
    | lst m =>
      have e' : toPys l = toPys m := PyData.list.inj e
      rw [toPys_inj k l m (by simpa [dep] using g) (by simpa [dep] using h) e']
    | _ => first | (cases e; done) | (exfalso; simp [dep] at h)
  | 0, .tup l, _, g, _, _ => by simp [dep] at g
  | 0, .lst l, _, g, _, _ => by simp [dep] at g
  | 0, .ty _, _, g, _, _ => by simp [dep] at g
  | _ + 1, .ty _, _, g, _, _ => by simp [dep] at g
  | 0, .loc _, _, g, _, _ => by simp [dep] at g
  | _ + 1, .loc _, _, g, _, _ => by simp [dep] at g
  | 0, .scr _, _, g, _, _ => by simp [dep] at g
  | _ + 1, .scr _, _, g, _, _ => by simp [dep] at g
  | 0, .ktp _, _, g, _, _ => by simp [dep] at g
  | _ + 1, .ktp _, _, g, _, _ => by simp [dep] at g
  | 0, .ftp _, _, g, _, _ => by simp [dep] at g
  | _ + 1, .ftp _, _, g, _, _ => by simp [dep] at g
theorem toPys_inj : ∀ (k : Nat) (l m : List AV), (∀ a, a ∈ l → dep k a = true) → (∀ a, a ∈ m → dep k a = true) → toPys l = toPys m → l = m
  | _, [], [], _, _, _ => rfl
  | _, [], _ :: _, _, _, e => by cases e
  | _, _ :: _, [], _, _, e => by cases e
  | k, a :: l, b :: m, g, h, e => by
    have e1 : a.toPy = b.toPy := (List.cons.inj e).1
    have e2 : toPys l = toPys m := (List.cons.inj e).2
    rw [toPy_inj k a b (g a List.mem_cons_self) (h b List.mem_cons_self) e1, toPys_inj k l m (fun c q => g c (List.mem_cons_of_mem _ q)) (fun c q => h c (List.mem_cons_of_mem _ q)) e2]
end
mutual
theorem dep_le : ∀ (k : Nat) (a : AV), dep k a = true → a.toPy.depth ≤ k
  | _, .non, _ => by show PyData.depth .none ≤ _; simp [PyData.depth]
  | _, .bl _, _ => by show PyData.depth (.bool _) ≤ _; simp [PyData.depth]
  | _, .int _, _ => by show PyData.depth (.int _) ≤ _; simp [PyData.depth]
  | _, .str _, _ => by show PyData.depth (.str _) ≤ _; simp [PyData.depth]
  | k + 1, .tup l, h => by
    show PyData.depth (.tuple (toPys l)) ≤ _
    have := deps_le k l (by simpa [dep] using h)
    simp only [PyData.depth]; omega
  | k + 1, .lst l, h => by
    show PyData.depth (.list (toPys l)) ≤ _
    have := deps_le k l (by simpa [dep] using h)
    simp only [PyData.depth]; omega
  | 0, .tup l, h => by simp [dep] at h
  | 0, .lst l, h => by simp [dep] at h
  | 0, .ty _, h => by simp [dep] at h
  | _ + 1, .ty _, h => by simp [dep] at h
  | 0, .loc _, h => by simp [dep] at h
  | _ + 1, .loc _, h => by simp [dep] at h
  | 0, .scr _, h => by simp [dep] at h
  | _ + 1, .scr _, h => by simp [dep] at h
  | 0, .ktp _, h => by simp [dep] at h
  | _ + 1, .ktp _, h => by simp [dep] at h
  | 0, .ftp _, h => by simp [dep] at h
  | _ + 1, .ftp _, h => by simp [dep] at h
theorem deps_le : ∀ (k : Nat) (l : List AV), (∀ a, a ∈ l → dep k a = true) → PyData.depthAll (toPys l) ≤ k
  | _, [], _ => by simp [toPys, PyData.depthAll]
  | k, a :: l, h => by
    have h1 := dep_le k a (h a List.mem_cons_self)
    have h2 := deps_le k l fun c q => h c (List.mem_cons_of_mem _ q)
    simp only [toPys, PyData.depthAll]; omega
end
theorem likeT_iff {l : List AV} (h : likeT l = true) : (∀ a ∈ l, tupNE a = true ∧ dep 6 a = true) ∧ AllAlike (l.map AV.toPy) := by
  unfold likeT at h
  rw [Bool.and_eq_true, List.all_eq_true, List.all_eq_true] at h
  refine ⟨fun a ha => by simpa using h.1 a ha, fun d hd d' hd' => ?_⟩
  obtain ⟨a, ha, rfl⟩ := List.mem_map.mp hd
  obtain ⟨b, hb, rfl⟩ := List.mem_map.mp hd'
  exact (List.all_eq_true.mp (h.2 a ha)) b hb
theorem tupNE_py {a : AV} (h : tupNE a = true) : ∃ x r, a.toPy = .tuple (x :: r) := by
  cases a with
  | tup l =>
    cases l with
    | nil => cases h
    | cons x r => exact ⟨x.toPy, toPys r, rfl⟩
  | _ => cases h
theorem fold_toPy (a : AV) : ∀ l : List AV, (l.map AV.toPy).foldl (fun x y => if dataLt y x then y else x) a.toPy = (l.foldl (fun a y => if ltA y a = true then y else a) a).toPy
  | [] => rfl
  | b :: l => by
    rw [List.map_cons, List.foldl_cons, List.foldl_cons]
    have e : (if dataLt b.toPy a.toPy = true then b.toPy else a.toPy) = (if ltA b a = true then b else a).toPy := by
      unfold ltA
      split <;> rfl
    rw [e]
    exact fold_toPy _ l
theorem minA_mem {l : List AV} {r : AV} (h : minA l = some r) : r ∈ l := by
  cases l with
  | nil => cases h
  | cons a l =>
    have e := Option.some.inj h
    have gen : ∀ (m : List AV) (b : AV), (m.foldl (fun a y => if ltA y a = true then y else a) b) = b ∨ (m.foldl (fun a y => if ltA y a = true then y else a) b) ∈ m := by
      intro m
      induction m with
      | nil => intro b; exact .inl rfl
      | cons c m ih =>
        intro b
        rw [List.foldl_cons]
        rcases ih (if ltA c b = true then c else b) with q | q
        · rw [q]
          split
          · exact .inr List.mem_cons_self
          · exact .inl rfl
        · exact .inr (List.mem_cons_of_mem _ q)
    rcases gen l a with q | q
    · rw [← e, q]; exact List.mem_cons_self
    · rw [← e]; exact List.mem_cons_of_mem _ q
section
variable {X : Cx}
theorem likes_it {W : Wd} {S : Store} {Q : VK} {a : AV} {x : V} {f : List AV → Out AV} (R : Rep X.K W S) (ra : RV X.K W a x) (P : PostO X.K W (optD (lstOf S a) fun l => if likeT l = true then f l else .no) Q) :
    ∃ p xs l, x = .ref p ∧ W.H p = some (.lst xs) ∧ RVs X.K W l xs ∧ likeT l = true ∧ PostO X.K W (f l) Q := by
  obtain ⟨l, e, P⟩ := P.opt
  obtain ⟨h, P⟩ := P.ite
  obtain ⟨p, xs, rfl, h1, r⟩ := lst_it R ra e
  exact ⟨p, xs, l, rfl, h1, r, h, P⟩
/-- min(xs), tuples -/
theorem cr_minT (hc : X.calm = true) (hu : X.A.units + 20 < cLine) : CallR X (.builtin "min") (fun xs H Q => ∃ W S a x, xs = [x] ∧ W.H = H ∧ Rep X.K W S ∧ RV X.K W a x ∧ PostO X.K W (optD (lstOf S a) fun l => if likeT l = true then optD (minA l) fun r => .ok r S else .no) Q) := by
  rintro pins s σ H xs us Q I r ⟨W, S, a, x, rfl, rfl, R, ra, P⟩
  obtain ⟨p, xs, l, rfl, h1, rl, hl, P⟩ := likes_it R ra P
  obtain ⟨m, em, P2⟩ := P.opt
  clear P
  rw [Vals.ref1 r]
  obtain ⟨its, rv, pt, hz⟩ := I.list (SqL.of h1)
  obtain ⟨g1, g2⟩ := likeT_iff hl
  have hd : DpAll X.K W.H xs (toPys l) := dps_of 6 (fun c hc => (g1 c hc).2) rl
  obtain ⟨as, hr⟩ := Dp.readsAll I _ _ _ hd rv
  cases l with
  | nil => cases em
  | cons b l =>
    have hA : AlikeAll (b.toPy :: l.map AV.toPy) := ⟨fun d hd d' hd' => g2 d hd d' hd', fun d hd => by
      obtain ⟨c, hc, rfl⟩ := List.mem_map.mp (show d ∈ (b :: l).map AV.toPy from hd)
      obtain ⟨y, t, e⟩ := tupNE_py (g1 c hc).1
      rw [e]; simp⟩
    rw [toPys_map] at hr
    have hdp := deps_le 6 (b :: l) fun c hc => (g1 c hc).2
    rw [toPys_map] at hdp
    refine min_list_data (I.ok.hd hc) pt.isList (show ReadsAll s.heap its.toArray.toList (b.toPy :: l.map AV.toPy) as from hr) hA (by simp only [List.map_cons] at hdp; omega) fun i v h' tk bs hi hv hk => ?_
    -- which item it is
    have hi' : its[i]? = some v := by simpa using hi
    have hlen : its.length = xs.length := rv.length.symm
    have hil : i < xs.length := by rw [← hlen]; exact (List.getElem?_eq_some_iff.mp hi').1
    obtain ⟨c, ec, rc⟩ := rl.getV (List.getElem?_eq_getElem hil)
    have rcv : RelV xs[i] v := by
      have := rv.get (List.getElem?_eq_getElem hil)
      obtain ⟨u, e1, e2⟩ := this
      rw [hi'] at e1
      cases e1
      exact e2
    have hcm : c ∈ b :: l := List.mem_of_getElem? ec
    obtain ⟨cs, hcr⟩ := Dp.reads I _ _ _ (dp_of 6 (g1 c hcm).2 rc) rcv
    have e1 : minD b.toPy (l.map AV.toPy) = m.toPy := by
      unfold minD
      rw [fold_toPy]
      exact congrArg AV.toPy (Option.some.inj em)
    rw [e1] at hv
    have e2 : m.toPy = c.toPy := (PyProof.Rows.reads_det (fun b o q _ => hk b o q) hcr hv).1
    have e3 : m = c := toPy_inj 6 m c (g1 m (minA_mem em)).2 (g1 c hcm).2 e2
    subst e3
    exact ⟨_, W.H, I.kept (t' := tk) hk, rcv, P2.val R rc⟩
/-- sorted(xs), tuples -/
theorem cr_sortT {m : Bool} (hu : X.A.units + 20 < cLine) : CallR X (.builtin "sorted") (fun xs H Q => ∃ W S a x, xs = [x] ∧ W.H = H ∧ Rep X.K W S ∧ RV X.K W a x ∧ PostO X.K W (optD (lstOf S a) fun l => if likeT l = true then mkL m (l.mergeSort leA) S else .no) Q) := by
  rintro pins s σ H xs us Q I r ⟨W, S, a, x, rfl, rfl, R, ra, P⟩
  obtain ⟨p, xs, l, rfl, h1, rl, hl, P⟩ := likes_it R ra P
  rw [Vals.ref1 r]
  obtain ⟨its, rv, pt, hz⟩ := I.list (SqL.of h1)
  obtain ⟨g1, g2⟩ := likeT_iff hl
  have each : EachIs (fun v a => ∃ x, RelV x v ∧ RV X.K W a x) its l := by
    refine EachIs.of_zip (by rw [← rv.length, rl.len]) fun q hq => ?_
    obtain ⟨i, hi⟩ := List.mem_iff_getElem?.mp hq
    rw [List.getElem?_zip_eq_some] at hi
    obtain ⟨y, e1, e2⟩ := rl.get hi.2
    obtain ⟨u, e3, e4⟩ := rv.get e1
    rw [hi.1] at e3
    cases e3
    exact ⟨y, e4, e2⟩
  have eachR : EachIs (fun v a => ∃ as, Reads s.heap v (AV.toPy a) as) its l := by
    have hd : DpAll X.K W.H xs (toPys l) := dps_of 6 (fun c hc => (g1 c hc).2) rl
    obtain ⟨as, hr⟩ := Dp.readsAll I _ _ _ hd rv
    rw [toPys_map] at hr
    exact readsAll_each AV.toPy hr
  have hlen : l.length ≤ sizeLine := by rw [rl.len]; exact hz
  refine sorted_data pt.isList each eachR g2 (.inl fun d hd => ?_) hlen (fun b hb => ?_) fun out hol he => ?_
  · obtain ⟨c, hc, rfl⟩ := List.mem_map.mp hd
    exact tupNE_py (g1 c hc).1
  · have := dep_le 6 b (g1 b hb).2
    omega
  · obtain ⟨ep, he'⟩ := PyProof.Rows.sortedAll_at s.heap its out.toArray
    have e : ∃ ys, Vals ys out ∧ RVs X.K W (l.mergeSort leA) ys := by
      have gen : ∀ {vs : List Value} {as : List AV}, EachIs (fun v a => ∃ x, RelV x v ∧ RV X.K W a x) vs as → ∃ ys, Vals ys vs ∧ RVs X.K W as ys := by
        intro vs as h
        induction h with
        | nil => exact ⟨[], .nil, .nil⟩
        | cons h _ ih =>
          obtain ⟨x, k1, k2⟩ := h
          obtain ⟨ys, k3, k4⟩ := ih
          exact ⟨x :: ys, .cons k1 k3, .cons k2 k4⟩
      exact gen he
    obtain ⟨ys, v1, v2⟩ := e
    have hyl : ys.length ≤ sizeLine := by rw [v1.length, hol]; exact hlen
    exact ⟨.ref _, upd W.H (s.heap.objs.size + 1) (.lst ys), I.laid (t' := s.toks) (fun _ _ => PyProof.Rows.sortedAll_old) (Nat.le_succ _) ⟨hyl, out, ep, v1, he'⟩, rfl, P.mk R v2 (I.hok.fresh (Nat.le_succ _))⟩
/-- sum(t), a tuple of ints -/
theorem cr_sumT (hc : X.calm = true) : CallR X (.builtin "sum") (fun xs H Q => ∃ (a : Addr) (ns : List Int), xs = [.ref a] ∧ SqT X.K H a (ns.map V.int) ∧ Q (.int ns.sum) H) := by
  rintro pins s σ H xs us Q I r ⟨a, ns, rfl, hq, q⟩
  rw [Vals.ref1 r]
  obtain ⟨its, rv, pt, hz⟩ := I.tuple hq
  obtain ⟨zs, e⟩ := rv.ints.allInts.items
  have hn : numsOf (intItems zs).toList = ns := by rw [← e]; exact rv.ints.numsOf
  rw [nums_intItems] at hn
  have pt2 : s.heap.IsTuple a (intItems zs) := by rw [← e]; exact pt
  have al : a < s.heap.objs.size := by obtain ⟨o, g, _⟩ := pt2; exact Heap.lt_size g
  refine call_sum_walkG (wpAny_pyIter_tuple pt2 ⟨_, _, _, _, _, _, numAt zs, rfl, Walks.tuple (A := X.A.in1) (I.ok.hd hc) s.heap.objs.size a (Nat.ne_of_lt al) (intItems zs), ⟨⟨_, Heap.get?_push_size _ rfl, rfl, rfl⟩, pt2.at fun o g => Heap.get?_push_of_some _ g⟩, fun b hb => ?_, fun _ _ => intItems_at, fun h' tk t' hk => ?_⟩)
  · show b < (s.heap.push _).objs.size
    rw [Heap.size_push]
    rcases List.mem_cons.mp hb with rfl | hb
    · exact Nat.lt_succ_self _
    · rw [List.mem_singleton.mp hb]; exact Nat.lt_succ_of_lt al
  · refine ⟨.int ns.sum, H, I.kept (t' := tk) fun b o g => hk b o (fun hb => ?_) (Heap.get?_push_of_some _ g), ⟨t', ?_⟩, q⟩
    · rw [List.mem_singleton.mp hb] at g
      exact absurd (Heap.lt_size g) (Nat.lt_irrefl _)
    · have : (intItems zs).size = zs.size := by simp [intItems]
      rw [this, preSum_eq, List.take_of_length_le (by simp), hn]
/-- min(t), a tuple of ints -/
theorem cr_minI (hc : X.calm = true) (hu : X.A.units + 20 < cLine) : CallR X (.builtin "min") (fun xs H Q => ∃ (a : Addr) (ns : List Int) (m : Int), xs = [.ref a] ∧ SqT X.K H a (ns.map V.int) ∧ m ∈ ns ∧ (∀ y ∈ ns, m ≤ y) ∧ Q (.int m) H) := by
  rintro pins s σ H xs us Q I r ⟨a, ns, m, rfl, hq, h1, h2, q⟩
  rw [Vals.ref1 r]
  obtain ⟨its, rv, pt, hz⟩ := I.tuple hq
  have hd : DpAll X.K H (ns.map V.int) (ns.map PyData.int) := by
    clear hq rv hz h1 h2
    induction ns with
    | nil => exact .nil
    | cons n ns ih => exact .cons (.int n) ih
  obtain ⟨as, hr⟩ := Dp.readsAll I _ _ _ hd rv
  cases ns with
  | nil => cases h1
  | cons n ns =>
    have hA : AlikeAll (PyData.int n :: ns.map PyData.int) := ⟨fun d hd d' hd' => by
      obtain ⟨i, _, rfl⟩ := List.mem_map.mp (show d ∈ (n :: ns).map PyData.int from hd)
      obtain ⟨j, _, rfl⟩ := List.mem_map.mp (show d' ∈ (n :: ns).map PyData.int from hd')
      simp [alike], fun d hd => by
      obtain ⟨i, _, rfl⟩ := List.mem_map.mp (show d ∈ (n :: ns).map PyData.int from hd)
      simp⟩
    have hdp : PyData.depthAll (PyData.int n :: ns.map PyData.int) = 0 := depth_ints (n :: ns)
    refine min_tuple_data (I.ok.hd hc) (show s.heap.IsTuple a its.toArray from pt) (show ReadsAll s.heap its.toArray.toList (PyData.int n :: ns.map PyData.int) as from hr) hA (by rw [hdp]; omega) fun i v h' tk bs hi hv hk => ?_
    have gen : ∀ (l : List Int) (n : Int), minD (.int n) (l.map PyData.int) = .int (l.foldl (fun a y => if y < a then y else a) n) := by
      intro l
      induction l with
      | nil => intro n; rfl
      | cons y l ih =>
        intro n
        have e := ih (if y < n then y else n)
        unfold minD at e ⊢
        rw [List.map_cons, List.foldl_cons, List.foldl_cons, dataLt_int]
        by_cases h : y < n
        · rw [if_pos h] at e ⊢; rw [if_pos (by simpa using h)]; exact e
        · rw [if_neg h] at e ⊢; rw [if_neg (by simpa using h)]; exact e
    have low : ∀ (l : List Int) (n : Int), ((l.foldl (fun a y => if y < a then y else a) n) = n ∨ (l.foldl (fun a y => if y < a then y else a) n) ∈ l) ∧ (l.foldl (fun a y => if y < a then y else a) n) ≤ n ∧ ∀ z ∈ l, (l.foldl (fun a y => if y < a then y else a) n) ≤ z := by
      intro l
      induction l with
      | nil => intro n; exact ⟨.inl rfl, Int.le_refl _, by simp⟩
      | cons y l ih =>
        intro n
        rw [List.foldl_cons]
        by_cases hy : y < n
        · rw [if_pos hy]
          obtain ⟨k1, k2, k3⟩ := ih y
          refine ⟨.inr ?_, by omega, fun z hz => ?_⟩
          · rcases k1 with e | e
            · rw [e]; exact List.mem_cons_self
            · exact List.mem_cons_of_mem _ e
          · rcases List.mem_cons.mp hz with rfl | hz
            · exact k2
            · exact k3 z hz
        · rw [if_neg hy]
          obtain ⟨k1, k2, k3⟩ := ih n
          refine ⟨?_, by omega, fun z hz => ?_⟩
          · rcases k1 with e | e
            · exact .inl e
            · exact .inr (List.mem_cons_of_mem _ e)
          · rcases List.mem_cons.mp hz with rfl | hz
            · omega
            · exact k3 z hz
    rw [gen] at hv
    obtain ⟨k1, k2, k3⟩ := low ns n
    have e : ns.foldl (fun a y => if y < a then y else a) n = m := by
      have a1 : m ≤ ns.foldl (fun a y => if y < a then y else a) n := by
        rcases k1 with e | e
        · rw [e]; exact h2 n List.mem_cons_self
        · exact h2 _ (List.mem_cons_of_mem _ e)
      have a2 : ns.foldl (fun a y => if y < a then y else a) n ≤ m := by
        rcases List.mem_cons.mp h1 with rfl | h
        · exact k2
        · exact k3 m h
      omega
    rw [e] at hv
    cases hv
    exact ⟨.int m, H, I.kept (t' := tk) hk, ⟨_, rfl⟩, q⟩
/-! l.index(k, i) -/
theorem indexF_at (l : Addr) (its : Array Value) (n : Nat) (dd : Option Addr) (sl : Array (Option Value)) (x : Value) (e : Value → Bool) (i j : Nat) (t : Tok) (hj : j < its.size) (hij : i ≤ j) (hs : (j : Int) < 2 ^ 63 - 1) (hit : e its[j] = true) (hno : ∀ m (hm : m < its.size), i ≤ m → m < j → e its[m] = false) :
    Meets (Builtin.«list.index» ⟨[.ref l, x, .int i t], []⟩) (fun A R s => s.heap.get? l = some { cls := .type "list", dict := dd, data := .seq its n, slots := sl } ∧ (∀ y, y ∈ its → SeqAt.EqAt A.in1 s y x (e y)) ∧ R (.ok (.ret (.int j s.toks))) { s with toks := s.toks + 1 }) := by
  intro P w A R ⟨hp, g, d, tk, os⟩ ⟨hl, he, h⟩
  have z1 : ((fun i : Int => if i < 0 then max 0 (i + (its.size : Int)) else i) ((some (i : Int)).getD 0)) = ((i : Nat) : Int) := by
    show (if (i : Int) < 0 then _ else (i : Int)) = _
    rw [if_neg (by omega)]
  have z2 : ((fun i : Int => if i < 0 then max 0 (i + (its.size : Int)) else i) ((none : Option Int).getD (2 ^ 63 - 1))) = 2 ^ 63 - 1 := by simp
  wp_walk using AutoSeq1.wpAny_loadPart' hl
  rw [z1, z2]
  refine ⟨plainId_quiet MeetsSeq.plain_index_loop _, codeAny_builtin MeetsSeq.entry_index_loop ?_⟩
  rw [Around.under_plainId MeetsSeq.plain_index_loop _]
  exact SeqAt.index_loopAt l its n dd sl x e _ j hj hs hit _ i rfl hij hno P w A R _ ⟨hl, he, h⟩
theorem lay_ints : ∀ ns : List Int, PyData.canLayAll0 (ns.map PyData.int) = true
  | [] => by simp [PyData.canLayAll0]
  | n :: ns => by simp [PyData.canLayAll0, PyData.canLay0, lay_ints ns]
theorem ints_dp {K : PySem.W.Frag} {H : Hp} : ∀ ns : List Int, DpAll K H (ns.map V.int) (ns.map PyData.int)
  | [] => .nil
  | n :: ns => .cons (.int n) (ints_dp ns)
theorem mt_indexF (hu : X.A.units + 65 < cLine) : MtR X "list.index" (fun x xs H Q => ∃ (a : Addr) (ns : List Int) (k : Int) (i : Nat), x = V.ref a ∧ xs = [.int k, .int i] ∧ SqL X.K H a (ns.map V.int) ∧ i ≤ 1000000 ∧ k ∈ ns.drop i ∧ Q (.int (i + (ns.drop i).idxOf k : Nat)) H) := by
  rintro pins s σ H x xs v us Q I rx rs ⟨a, ns, k, i, rfl, rfl, hq, hi, hk, q⟩
  cases rx
  cases rs with
  | cons r1 rt =>
    cases rt with
    | cons r2 rt =>
      cases rt
      obtain ⟨t1, rfl⟩ := r1
      obtain ⟨t2, rfl⟩ := r2
      obtain ⟨its, rv, ⟨⟨cls, dd, dat, sls⟩, n, ho, hc, hdn, hdt⟩, hz⟩ := I.list hq
      simp only at hc hdt
      subst hc hdt
      obtain ⟨as, hr⟩ := Dp.readsAll I _ _ _ (ints_dp ns) rv
      have hlen : its.length = ns.length := by simpa using rv.length.symm
      have hL := List.idxOf_lt_length_of_mem hk
      rw [List.length_drop] at hL
      have hsl := sizeLine_eq
      rw [List.length_map] at hz
      have at_ : ∀ (m : Nat) (hm : m < its.toArray.size), SeqAt.readOf s.heap its.toArray[m] = .int (ns[m]'(by simp at hm; omega)) := by
        intro m hm
        have := SeqAt.readsAll_map (ns.map PyData.int) its as (lay_ints ns) hr
        have h2 : m < its.length := by simpa using hm
        have h3 : (its.map (SeqAt.readOf s.heap))[m]? = (ns.map PyData.int)[m]? := by rw [this]
        rw [List.getElem?_map, List.getElem?_map, List.getElem?_eq_getElem h2, List.getElem?_eq_getElem (by omega)] at h3
        simpa using h3
      have hj : i + (ns.drop i).idxOf k < its.toArray.size := by simp; omega
      refine call_meets PySem.F.slot_list_index ⟨_, ho, rfl⟩ PySem.F.entry_list_index (PySem.F.args_list_index_3 _ _ _)
        (indexF_at a its.toArray n dd sls (.int k t1) (fun u => PyData.eqv (SeqAt.readOf s.heap u) (.int k)) i (i + (ns.drop i).idxOf k) t2 hj (Nat.le_add_right _ _) (by omega) ?_ ?_) ⟨ho, SeqAt.items_eqAt (vs := its.toArray) (show ReadsAll s.heap its.toArray.toList (ns.map PyData.int) as from hr) (Reads.int k t1) (lay_ints ns) (by simp [PyData.canLay0]) ?_, ?_⟩
      · show PyData.eqv (SeqAt.readOf s.heap its.toArray[i + (ns.drop i).idxOf k]) _ = true
        rw [at_ _ hj]
        have e1 : (ns.drop i)[(ns.drop i).idxOf k]'(by rw [List.length_drop]; omega) = k := List.getElem_idxOf _
        rw [List.getElem_drop] at e1
        rw [e1]
        simp [PyData.eqv]
      · intro m hm h1 h2
        show PyData.eqv (SeqAt.readOf s.heap its.toArray[m]) _ = false
        rw [at_ m hm]
        have h3 : m - i < (ns.drop i).idxOf k := by omega
        have h4 := List.not_of_lt_findIdx (p := (· == k)) (xs := ns.drop i) (i := m - i) h3
        have h5 : (ns.drop i)[m - i]'(by rw [List.length_drop]; omega) = ns[m]'(by simp at hm; omega) := by
          rw [List.getElem_drop]
          congr 1
          omega
        rw [h5] at h4
        simpa [PyData.eqv] using h4
      · have : PyData.depthAll (ns.map PyData.int) = 0 := depth_ints ns
        rw [this]
        omega
      · exact ⟨.int _, H, I.tok _, ⟨_, rfl⟩, q⟩
end
end VI

set_option maxRecDepth 100000
set_option maxHeartbeats 1000000
/-! VI4: comparisons, places, slices, calls of what is built in. -/
namespace VI
open PySem PySem.Spec PyProof.Rows L2
section
variable {X : Cx} {pins : List (Addr × Obj)} {σ : L2.St} {H : Hp} {s : Shared}
theorem outB_ok {K : PySem.W.Frag} {W : Wd} {S : Store} {Q : VK} {o : Option Bool} (P : PostO K W (outB o S) Q) : ∃ b, o = some b ∧ PostO K W (.ok (.bl b) S) Q := by
  cases o with
  | none => exact P.no.elim
  | some b => exact ⟨b, rfl, P⟩
theorem hasKey_some {κ : Type} [DecidableEq κ] (k : κ) (xs : List (κ × V)) : (valV xs k).isSome = xs.any fun p => decide (p.1 = k) := (valV_any k xs).symm
theorem keyOf_ok {K : PySem.W.Frag} {W : Wd} {a : AV} {x : V} {k : Key} (e : keyOf a = some k) (r : RV K W a x) : x = kV k := by
  cases a with
  | int i => cases e; cases r; rfl
  | str i => cases e; cases r; rfl
  | _ => cases e
theorem keysOf_ok' {K : PySem.W.Frag} {W : Wd} : ∀ {l : List AV} {xs : List V} {ks : List Key}, l.mapM keyOf = some ks → RVs K W l xs → xs = ks.map kV
  | [], _, ks, e, .nil => by
    have e' : ks = [] := by simpa using e.symm
    rw [e']; rfl
  | a :: l, _, ks, e, .cons p t => by
    rw [List.mapM_cons] at e
    cases e1 : keyOf a with
    | none => rw [e1] at e; cases e
    | some k =>
      cases e2 : l.mapM keyOf with
      | none => rw [e1, e2] at e; cases e
      | some r =>
        rw [e1, e2] at e
        have e' : ks = k :: r := by simpa using e.symm
        subst e'
        rw [keyOf_ok e1 p, keysOf_ok' e2 t]; rfl
/-- «in», by what the right side is -/
theorem in_ok {neg : Bool} {op : CmpOp} (hop : op = if neg then .NotIn else .In) (hu : X.A.units + 1 < cLine) {W : Wd} {S : Store} {a b : AV} {x y : V} {v u : Value} {c : Bool} {Q : VK} (I : Inv X pins σ W.H s) (R : Rep X.K W S) (ra : RV X.K W a x) (rb : RV X.K W b y)
    (rx : RelV x v) (ry : RelV y u) (e : inD S a b = some c) (q : Q (.bl (if neg then !c else c)) W.H) : wpAny (model X.prog X.w) X.A (compareOp op v u) (EP X pins σ Q) X.xe s := by
  subst hop
  have seq : ∀ {l : List AV}, (∃ p xs, y = .ref p ∧ (SqL X.K W.H p xs ∨ SqT X.K W.H p xs) ∧ RVs X.K W l xs) → (if flatA a = true ∧ l.all flatA = true then some (l.any (eqv a)) else none) = some c →
      wpAny (model X.prog X.w) X.A (compareOp (if neg then .NotIn else .In) v u) (EP X pins σ Q) X.xe s := by
    rintro l ⟨p, xs, rfl, h, r⟩ e
    split at e
    · rename_i hf
      have e' : inV x xs = c := by rw [any_ok hf.1 ra hf.2 r]; exact Option.some.inj e
      subst e'
      cases neg with
      | true => exact op_notIn_seq pins s σ W.H _ _ v u Q I rx ry ⟨p, xs, rfl, h, flat_ok hf.1 ra, flats_ok hf.2 r, q⟩
      | false => exact op_in_seq pins s σ W.H _ _ v u Q I rx ry ⟨p, xs, rfl, h, flat_ok hf.1 ra, flats_ok hf.2 r, q⟩
    · cases e
  cases b with
  | tup l => exact seq (items_it R rb rfl) e
  | ktp l => exact seq (items_it R rb rfl) e
  | ftp l => exact seq (items_it R rb rfl) e
  | lst l => exact seq (items_it R rb rfl) e
  | loc i =>
    simp only [inD] at e
    cases e1 : S[i]? with
    | none => simp [e1] at e
    | some o =>
      simp only [e1] at e
      cases o with
      | lst l => exact seq (items_it R rb (by simp [itemsOf, e1])) e
      | dct lk l =>
        dsimp only at e
        cases e2 : keyOf a with
        | none => rw [e2] at e; cases e
        | some k =>
          rw [e2] at e
          have e' : hasKey k l = c := Option.some.inj e
          have ex := keyOf_ok e2 ra
          subst ex
          cases rb with
          | loc hi =>
            obtain ⟨xs, g, rk⟩ : ∃ xs, DGet W.H (W.φ i) (kV k) (valV xs k) ∧ RKs X.K W l xs := by
              cases lk with
              | false => obtain ⟨xs, h1, h2⟩ := R.obj i _ e1; exact ⟨xs, DGet.k h1, h2⟩
              | true => obtain ⟨_, xs, o, h1, h2⟩ := R.obj i _ e1; exact ⟨xs, .inl ⟨xs, k, .inr ⟨o, h1⟩, rfl, rfl⟩, h2⟩
            obtain rfl : u = Value.ref (W.φ i) := ry
            have hc : (valV xs k).isSome = c := by rw [hasKey_some, rk.hasK, e']
            cases neg with
            | true => exact d_notIn hu I g rx fun s3 I3 => ⟨.bl _, W.H, I3, rfl, by rw [hc]; exact q⟩
            | false => exact d_in hu I g rx fun s3 I3 => ⟨.bl _, W.H, I3, rfl, by rw [hc]; exact q⟩
      | dcT lk l =>
        dsimp only at e
        cases e2 : keysOf a with
        | none => rw [e2] at e; cases e
        | some k =>
          rw [e2] at e
          have e' : hasKey k l = c := Option.some.inj e
          cases a with
          | tup m =>
            cases ra with
            | tup h1 h2 r =>
              have ek := keysOf_ok' (l := m) e2 r
              subst ek
              cases rb with
              | loc hi =>
                obtain ⟨xs, g, rk⟩ : ∃ xs, DGet W.H (W.φ i) (.ref _) (valV xs k) ∧ RKs X.K W l xs := by
                  cases lk with
                  | false => obtain ⟨xs, h3, h4⟩ := R.obj i _ e1; exact ⟨xs, DGet.t h3 h1, h4⟩
                  | true => obtain ⟨_, xs, o, h3, h4⟩ := R.obj i _ e1; exact ⟨xs, .inr ⟨xs, k, _, .inr ⟨o, h3⟩, rfl, h1, rfl⟩, h4⟩
                obtain rfl : u = Value.ref (W.φ i) := ry
                have hc : (valV xs k).isSome = c := by rw [hasKey_some, rk.hasK, e']
                cases neg with
                | true => exact d_notIn hu I g rx fun s3 I3 => ⟨.bl _, W.H, I3, rfl, by rw [hc]; exact q⟩
                | false => exact d_in hu I g rx fun s3 I3 => ⟨.bl _, W.H, I3, rfl, by rw [hc]; exact q⟩
          | _ => simp [keysOf] at e2
      | _ => cases e
  | _ => cases e
theorem op_cmpV (hu : X.A.units + 64 < cLine) (o : COp) : OpR X (compareOp (opC o)) (R2D X.K fun a b S => outB (cmpD o a b S) S) := by
  rintro pins s σ H x y v u Q I rx ry ⟨W, S, a, b, rfl, R, ra, rb, P⟩
  obtain ⟨c, e, P⟩ := outB_ok P
  have q : Q (.bl c) W.H := P.val R (.bl c)
  have hu1 : X.A.units + 1 < cLine := by omega
  have cmpI : ∀ {p : Int → Int → Bool} {op : CmpOp}, OpR X (compareOp op) (rI0 fun i j => .bl (p i j)) → (∀ i j, a = .int i → b = .int j → p i j = c) → (∃ i j, a = .int i ∧ b = .int j) → wpAny (model X.prog X.w) X.A (compareOp op v u) (EP X pins σ Q) X.xe s := by
    rintro p op ho hp ⟨i, j, rfl, rfl⟩
    cases ra; cases rb
    refine ho pins s σ W.H _ _ v u Q I rx ry ⟨i, j, rfl, rfl, ?_⟩
    show Q (.bl (p i j)) W.H
    rw [hp i j rfl rfl]; exact q
  cases o with
  | eq =>
    obtain ⟨d, d', h1, h2, h3, h4, h5⟩ := eqD_ok R ra rb e
    exact op_eqD hu pins s σ W.H _ _ v u Q I rx ry ⟨d, d', h1, h2, h3, h4, by rw [h5]; exact q⟩
  | ne =>
    have e : (eqD S a b).map (!·) = some c := e
    cases e1 : eqD S a b with
    | none => rw [e1] at e; cases e
    | some c' =>
      rw [e1] at e
      have e : (!c') = c := Option.some.inj e
      obtain ⟨d, d', h1, h2, h3, h4, h5⟩ := eqD_ok R ra rb e1
      exact op_neD hu pins s σ W.H _ _ v u Q I rx ry ⟨d, d', h1, h2, h3, h4, by rw [h5, e]; exact q⟩
  | lt =>
    refine cmpI op_lt (fun i j e1 e2 => ?_) ?_
    · subst e1 e2; exact Option.some.inj e
    · cases a with
      | int i => cases b with
        | int j => exact ⟨i, j, rfl, rfl⟩
        | _ => cases e
      | _ => cases b <;> cases e
  | le =>
    refine cmpI op_le (fun i j e1 e2 => ?_) ?_
    · subst e1 e2; exact Option.some.inj e
    · cases a with
      | int i => cases b with
        | int j => exact ⟨i, j, rfl, rfl⟩
        | _ => cases e
      | _ => cases b <;> cases e
  | gt =>
    refine cmpI op_gt (fun i j e1 e2 => ?_) ?_
    · subst e1 e2; exact Option.some.inj e
    · cases a with
      | int i => cases b with
        | int j => exact ⟨i, j, rfl, rfl⟩
        | _ => cases e
      | _ => cases b <;> cases e
  | ge =>
    refine cmpI op_ge (fun i j e1 e2 => ?_) ?_
    · subst e1 e2; exact Option.some.inj e
    · cases a with
      | int i => cases b with
        | int j => exact ⟨i, j, rfl, rfl⟩
        | _ => cases e
      | _ => cases b <;> cases e
  | is =>
    cases b with
    | non =>
      cases rb
      refine op_isN pins s σ W.H _ _ v u Q I rx ry ⟨rfl, ?_⟩
      have : decide (x = V.non) = c := by
        cases ra <;> first | (have e' := Option.some.inj e; subst e'; rfl) | (have e' := Option.some.inj e; subst e'; exact decide_eq_false (fun z => nomatch z))
      rw [this]; exact q
    | bl j =>
      cases a with
      | bl i =>
        have e1 : decide (i = j) = c := Option.some.inj e
        cases ra
        cases rb
        cases (show v = Value.bool i from rx)
        cases (show u = Value.bool j from ry)
        by_cases ej : i = j
        · subst ej
          exact wpAny_is_self rfl ⟨.bl true, W.H, I, rfl, by rw [← e1] at q; simpa using q⟩
        · exact wpAny_is_other rfl (fun z => ej (Value.bool.inj z)) ⟨.bl false, W.H, I, rfl, by rw [← e1] at q; simpa [ej] using q⟩
      | _ => cases e
    | _ => cases a <;> cases e
  | isn =>
    cases b with
    | non =>
      cases rb
      refine op_notN pins s σ W.H _ _ v u Q I rx ry ⟨rfl, ?_⟩
      have : (!decide (x = V.non)) = c := by
        cases ra <;> first | (have e' := Option.some.inj e; subst e'; rfl) | (have e' := Option.some.inj e; subst e'; rw [decide_eq_false (fun z => nomatch z)]; rfl)
      rw [this]; exact q
    | bl j =>
      cases a with
      | bl i =>
        have e1 : (!decide (i = j)) = c := Option.some.inj e
        cases ra
        cases rb
        cases (show v = Value.bool i from rx)
        cases (show u = Value.bool j from ry)
        by_cases ej : i = j
        · subst ej
          exact wpAny_isNot_self rfl ⟨.bl false, W.H, I, rfl, by rw [← e1] at q; simpa using q⟩
        · exact wpAny_isNot_other rfl (fun z => ej (Value.bool.inj z)) ⟨.bl true, W.H, I, rfl, by rw [← e1] at q; simpa [ej] using q⟩
      | _ => cases e
    | _ => cases a <;> cases e
  | isin => exact in_ok (neg := false) rfl hu1 I R ra rb rx ry e q
  | nin =>
    have e : (inD S a b).map (!·) = some c := e
    cases e1 : inD S a b with
    | none => rw [e1] at e; cases e
    | some c' =>
      rw [e1] at e
      have e : (!c') = c := Option.some.inj e
      refine in_ok (neg := true) rfl hu1 I R ra rb rx ry e1 ?_
      simp only [if_true]
      rw [e]; exact q
/-! places -/
theorem atI_ok {K : PySem.W.Frag} {W : Wd} {l : List AV} {xs : List V} {k : Int} {a : AV} (r : RVs K W l xs) (e : atI l k = some a) : ∃ x, atI xs k = some x ∧ RV K W a x := by
  unfold atI at e ⊢
  rw [← r.len]
  cases h : ixN l.length k with
  | none => rw [h] at e; cases e
  | some j =>
    rw [h] at e
    exact r.get e
theorem op_ixV (hu : X.A.units + 1 < cLine) : IxR X (R2D X.K ixD) := by
  rintro value slice pins s σ H x y v u Q I rx ry ⟨W, S, a, b, rfl, R, ra, rb, P⟩ hs
  have seq : ∀ {l : List AV} {k : Int}, (∃ p xs, x = .ref p ∧ (SqL X.K W.H p xs ∨ SqT X.K W.H p xs) ∧ RVs X.K W l xs) → y = .int k → PostO X.K W (optD (atI l k) fun v => .ok v S) Q → wpAny (model X.prog X.w) X.A (subscriptTail value slice v u) (EP X pins σ Q) X.xe s := by
    rintro l k ⟨p, xs, rfl, h, r⟩ rfl P
    obtain ⟨c, e, P⟩ := P.opt
    obtain ⟨z, h1, h2⟩ := atI_ok r e
    rcases h with h | h
    · exact ix_list value slice pins s σ W.H _ _ v u Q I rx ry ⟨p, xs, k, z, rfl, rfl, h, h1, P.val R h2⟩ hs
    · exact ix_tup value slice pins s σ W.H _ _ v u Q I rx ry ⟨p, xs, k, z, rfl, rfl, h, h1, P.val R h2⟩ hs
  have dic : ∀ {i : Nat} {lk : Bool} {l : List (Key × AV)} {k : Key} {b : AV}, a = .loc i → S[i]? = some (.dct lk l) → keyOf b = some k → RV X.K W b y → PostO X.K W (optD (lookK k l) fun v => .ok v S) Q → wpAny (model X.prog X.w) X.A (subscriptTail value slice v u) (EP X pins σ Q) X.xe s := by
    rintro i lk l k b rfl e1 e2 rb P
    obtain ⟨c, e, P⟩ := P.opt
    have ey := keyOf_ok e2 rb
    subst ey
    cases ra with
    | loc hi =>
      obtain ⟨xs, h1, rk⟩ : ∃ xs, Rd W.H (W.φ i) (.dK xs) ∧ RKs X.K W l xs := by
        cases lk with
        | false => obtain ⟨xs, h1, h2⟩ := R.obj i _ e1; exact ⟨xs, .inl h1, h2⟩
        | true => obtain ⟨_, xs, o, h1, h2⟩ := R.obj i _ e1; exact ⟨xs, .inr ⟨o, h1⟩, h2⟩
      obtain ⟨z, h2, h3⟩ := rk.look k e
      obtain rfl : v = Value.ref (W.φ i) := rx
      have g : DGet W.H (W.φ i) (kV k) (some z) := .inl ⟨xs, k, h1, rfl, h2.symm⟩
      exact tail_any (dict_typeIs I g) PySem.F.slot_dict_getitem.lookup (d_getItem hu I g ry fun w' s3 I3 rw' => ⟨z, W.H, I3, rw', P.val R h3⟩) hs
  cases b with
  | int k =>
    cases rb
    cases a with
    | loc i =>
      cases e1 : S[i]? with
      | none => simp only [ixD, e1] at P; exact P.no.elim
      | some o =>
        cases o with
        | lst l => simp only [ixD, e1] at P; exact seq (items_it R ra (l := l) (by simp [itemsOf, e1])) rfl P
        | dct lk l => simp only [ixD, e1] at P; exact dic rfl e1 rfl (.int k) P
        | _ => simp only [ixD, e1] at P; exact P.no.elim
    | str z =>
      cases ra
      obtain ⟨hz, P⟩ := P.ite
      obtain ⟨c, e, P⟩ := P.opt
      exact ix_str value slice pins s σ W.H _ _ v u Q I rx ry ⟨z, k, c, rfl, rfl, hz, e, P.val R (.str _)⟩ hs
    | tup l => exact seq (items_it R ra rfl) rfl P
    | lst l => exact seq (items_it R ra rfl) rfl P
    | scr l => exact seq (items_it R ra rfl) rfl P
    | ktp l => exact seq (items_it R ra rfl) rfl P
    | ftp l => exact seq (items_it R ra rfl) rfl P
    | _ => exact P.no.elim
  | str z =>
    cases a with
    | loc i =>
      cases e1 : S[i]? with
      | none => simp only [ixD, e1] at P; exact P.no.elim
      | some o =>
        cases o with
        | dct lk l => simp only [ixD, e1] at P; exact dic rfl e1 rfl rb P
        | _ => simp only [ixD, e1] at P; exact P.no.elim
    | _ => exact P.no.elim
  | _ => cases a <;> exact P.no.elim
/-- cut: the same of both -/
theorem cut_ok {K : PySem.W.Frag} {W : Wd} {l : List AV} {xs : List V} (r : RVs K W l xs) (lo hi : Option Int) : RVs K W (cutA l lo hi) (cutV xs lo hi) := by
  unfold cutA cutV
  rw [← r.len]
  exact (r.drop _).take _
theorem cutA_whole {l : List AV} {lo hi : Option Int} (h : HT.sIx l.length 0 lo = 0 ∧ HT.sIx l.length l.length hi = l.length) : cutA l lo hi = l := by
  unfold cutA
  rw [h.1, h.2]
  simp
def RSl (K : PySem.W.Frag) (m : Bool) : V → Option Int → Option Int → Hp → VK → Prop := fun x lo hi H Q => ∃ W S a, W.H = H ∧ Rep K W S ∧ RV K W a x ∧ PostO K W (cutD m a lo hi S) Q
theorem sl_V {m : Bool} : SlR X (RSl X.K m) := by
  rintro pins s σ H x v vl vu lo hi sl Q I rx hs pl pu ⟨W, S, a, rfl, R, ra, P⟩
  have lists : PostO X.K W (optD (lstOf S a) fun l => mkL m (cutA l lo hi) S) Q → ∃ T id, typeLookup (.type T) "__getitem__" = pure (some (.builtin id)) ∧ s.TypeIs v T ∧ wpAny (model X.prog X.w) X.A (getItem v (.ref sl)) (EP X pins σ Q) X.xe s := by
    intro P
    obtain ⟨l, e, P⟩ := P.opt
    obtain ⟨p, xs, rfl, h1, r1⟩ := lst_it R ra e
    exact sl_list pins s σ W.H _ v vl vu lo hi sl Q I rx hs pl pu ⟨p, xs, rfl, SqL.of h1, fun q hq => P.mk R (cut_ok r1 lo hi) hq⟩
  cases a with
  | tup l =>
    obtain ⟨p, xs, rfl, h1, r1⟩ := ra.itT
    refine sl_tupA pins s σ W.H _ v vl vu lo hi sl Q I rx hs pl pu ⟨p, xs, rfl, h1, fun hw => ?_, fun _ q hq => P.tup R (cut_ok r1 lo hi) hq⟩
    rw [← r1.len] at hw
    have P : PostO X.K W (.ok (.tup (cutA l lo hi)) S) Q := P
    rw [cutA_whole hw] at P
    exact P.val R ra
  | lst l => exact lists P
  | loc i => exact lists P
  | _ => exact P.no.elim

/-! calls of what is built in -/
theorem sortI_perm : ∀ l : List Int, (sortI l).Perm l
  | [] => .nil
  | x :: l => by
    have ins : ∀ (x : Int) (l : List Int), (insI x l).Perm (x :: l) := by
      intro x l
      induction l with
      | nil => exact .refl _
      | cons y l ih =>
        unfold insI
        split
        · exact .refl _
        · exact (List.Perm.cons y ih).trans (List.Perm.swap x y l)
    exact (ins x _).trans (List.Perm.cons x (sortI_perm l))
theorem sortI_pair : ∀ l : List Int, (sortI l).Pairwise (· ≤ ·)
  | [] => .nil
  | x :: l => by
    have ins : ∀ (x : Int) (l : List Int), l.Pairwise (· ≤ ·) → (insI x l).Pairwise (· ≤ ·) := by
      intro x l
      induction l with
      | nil => intro _; simp [insI]
      | cons y l ih =>
        intro h
        unfold insI
        split
        · rename_i hxy
          refine List.Pairwise.cons (fun z hz => ?_) h
          rcases List.mem_cons.mp hz with rfl | hz
          · exact hxy
          · exact Int.le_trans hxy (List.rel_of_pairwise_cons h hz)
        · rename_i hxy
          refine List.Pairwise.cons (fun z hz => ?_) (ih h.of_cons)
          have hm : ∀ (x : Int) (l : List Int) z, z ∈ insI x l → z = x ∨ z ∈ l := by
            intro x l
            induction l with
            | nil => intro z hz; simpa [insI] using hz
            | cons y l ih =>
              intro z hz
              unfold insI at hz
              split at hz
              · simpa using hz
              · rcases List.mem_cons.mp hz with rfl | hz
                · simp
                · rcases ih z hz with h | h
                  · exact .inl h
                  · exact .inr (List.mem_cons_of_mem _ h)
          rcases hm x l z hz with rfl | hz
          · omega
          · exact List.rel_of_pairwise_cons h hz
    exact ins x _ (sortI_pair l)
/-- one rising arrangement alone -/
theorem sorted_one : ∀ {l m : List Int}, l.Perm m → l.Pairwise (· ≤ ·) → m.Pairwise (· ≤ ·) → l = m
  | [], m, h, _, _ => by simpa using h.nil_eq
  | a :: l, [], h, _, _ => by simp at h
  | a :: l, b :: m, h, h1, h2 => by
    have ab : a = b := by
      have ha : a ∈ b :: m := h.mem_iff.mp List.mem_cons_self
      have hb : b ∈ a :: l := h.mem_iff.mpr List.mem_cons_self
      rcases List.mem_cons.mp ha with e | ha
      · exact e
      · rcases List.mem_cons.mp hb with e | hb
        · exact e.symm
        · have := List.rel_of_pairwise_cons h1 hb
          have := List.rel_of_pairwise_cons h2 ha
          omega
    subst ab
    rw [sorted_one (h.cons_inv) h1.of_cons h2.of_cons]
theorem leastI_none : ∀ {l : List Int}, leastI l = none → l = []
  | [], _ => rfl
  | x :: l, h => by
    unfold leastI at h
    split at h <;> cases h
theorem leastI_ok : ∀ {l : List Int} {i : Int}, leastI l = some i → i ∈ l ∧ ∀ y, y ∈ l → i ≤ y
  | [], i, h => by cases h
  | x :: l, i, h => by
    unfold leastI at h
    cases e : leastI l with
    | none =>
      rw [e] at h
      cases h
      have := leastI_none e
      subst this
      exact ⟨List.mem_cons_self, fun y hy => by have := List.mem_singleton.mp hy; omega⟩
    | some j =>
      rw [e] at h
      obtain ⟨h1, h2⟩ := leastI_ok e
      have h : (if j < x then j else x) = i := Option.some.inj h
      split at h
      · subst h
        refine ⟨List.mem_cons_of_mem _ h1, fun y hy => ?_⟩
        rcases List.mem_cons.mp hy with rfl | hy
        · omega
        · exact h2 y hy
      · subst h
        refine ⟨List.mem_cons_self, fun y hy => ?_⟩
        rcases List.mem_cons.mp hy with rfl | hy
        · omega
        · have := h2 y hy; omega
theorem mostI_none : ∀ {l : List Int}, mostI l = none → l = []
  | [], _ => rfl
  | x :: l, h => by
    unfold mostI at h
    split at h <;> cases h
theorem mostI_ok : ∀ {l : List Int} {i : Int}, mostI l = some i → i ∈ l ∧ ∀ y, y ∈ l → y ≤ i
  | [], i, h => by cases h
  | x :: l, i, h => by
    unfold mostI at h
    cases e : mostI l with
    | none =>
      rw [e] at h
      cases h
      have := mostI_none e
      subst this
      exact ⟨List.mem_cons_self, fun y hy => by have := List.mem_singleton.mp hy; omega⟩
    | some j =>
      rw [e] at h
      obtain ⟨h1, h2⟩ := mostI_ok e
      have h : (if x < j then j else x) = i := Option.some.inj h
      split at h
      · subst h
        refine ⟨List.mem_cons_of_mem _ h1, fun y hy => ?_⟩
        rcases List.mem_cons.mp hy with rfl | hy
        · omega
        · exact h2 y hy
      · subst h
        refine ⟨List.mem_cons_self, fun y hy => ?_⟩
        rcases List.mem_cons.mp hy with rfl | hy
        · omega
        · have := h2 y hy; omega
/-- the name that a built-in bears, and what stands at it -/
def primN : Prim → String
  | .len => "len"
  | .abs => "abs"
  | .min2 => "min"
  | .max2 => "max"
  | .minL => "min"
  | .maxL => "max"
  | .sum => "sum"
  | .sorted => "sorted"
  | .sortedSet => "sorted"
  | .tuple => "tuple"
  | .list => "list"
  | .int => "int"
  | .str => "str"
  | .all => "all"
  | .any => "any"
  | .divmod => "divmod"
  | .isi => "isinstance"
  | .dict => "dict"
  | .minT => "min"
  | .sortT => "sorted"
  | .sumT => "sum"
  | .minI => "min"
/-- .. a type, or a function -/
def primT : Prim → Bool
  | .tuple => true
  | .list => true
  | .int => true
  | .str => true
  | .dict => true
  | _ => false
def primV (p : Prim) : Value := if primT p then .type (primN p) else .builtin (primN p)
def primOk : Prim → Bool
  | .sortedSet => false
  | .str => false
  | .dict => false
  | _ => true
theorem ints_it {K : PySem.W.Frag} {W : Wd} {S : Store} {Q : VK} {a : AV} {x : V} {f : List Int → Out AV} (R : Rep K W S) (ra : RV K W a x) (P : PostO K W (intsD S a f) Q) : ∃ p ns, x = .ref p ∧ SqL K W.H p (ns.map V.int) ∧ PostO K W (f ns) Q := by
  obtain ⟨l, e, P1⟩ := PostO.opt P
  obtain ⟨ns, e2, P2⟩ := P1.opt
  have el := intsOf_eq e2
  subst el
  obtain ⟨p, xs, rfl, h, r⟩ := lst_it R ra e
  have ex := RVs.of_ints r
  subst ex
  exact ⟨p, ns, rfl, SqL.of h, P2⟩
theorem bls_it {K : PySem.W.Frag} {W : Wd} {S : Store} {Q : VK} {a : AV} {x : V} {f : List Bool → Out AV} (R : Rep K W S) (ra : RV K W a x) (P : PostO K W (blsD S a f) Q) : ∃ p ns, x = .ref p ∧ SqL K W.H p (ns.map V.bl) ∧ PostO K W (f ns) Q := by
  obtain ⟨l, e, P1⟩ := PostO.opt P
  obtain ⟨ns, e2, P2⟩ := P1.opt
  have el := blsOf_eq e2
  subst el
  obtain ⟨p, xs, rfl, h, r⟩ := lst_it R ra e
  have ex := RVs.of_bls r
  subst ex
  exact ⟨p, ns, rfl, SqL.of h, P2⟩
theorem isTy_ok {W : Wd} {S : Store} {n : String} {a : AV} {x : V} {b : Bool} (hn : n = "int" ∨ n = "bool" ∨ n = "str" ∨ n = "tuple" ∨ n = "list") (R : Rep X.K W S) (ra : RV X.K W a x) (e : isTy S n a = some b) : ∃ t, TyX X.K W.H x t ∧ PySem.W.kitOne X.K t (.type n) = some b := by
  cases a with
  | non => cases ra; cases e; exact ⟨_, .base .non, by rcases hn with rfl | rfl | rfl | rfl | rfl <;> exact kit_ty (by decide +kernel)⟩
  | bl y => cases ra; cases e; exact ⟨_, .base (.bl y), by rcases hn with rfl | rfl | rfl | rfl | rfl <;> exact kit_ty (by decide +kernel)⟩
  | int y => cases ra; cases e; exact ⟨_, .base (.int y), by rcases hn with rfl | rfl | rfl | rfl | rfl <;> exact kit_ty (by decide +kernel)⟩
  | str y => cases ra; cases e; exact ⟨_, .base (.str y), by rcases hn with rfl | rfl | rfl | rfl | rfl <;> exact kit_ty (by decide +kernel)⟩
  | tup l => cases e; cases ra with
    | tup h _ _ => exact ⟨_, .base (.tup h), by rcases hn with rfl | rfl | rfl | rfl | rfl <;> exact kit_ty (by decide +kernel)⟩
  | lst l => cases e; cases ra with
    | lst h _ _ => exact ⟨_, .base (.lst h), by rcases hn with rfl | rfl | rfl | rfl | rfl <;> exact kit_ty (by decide +kernel)⟩
  | loc i =>
    simp only [isTy] at e
    cases e1 : S[i]? with
    | none => simp [e1] at e
    | some o =>
      cases o with
      | lst l =>
        simp only [e1] at e
        cases e
        cases ra
        obtain ⟨xs, h, _⟩ := R.obj i _ e1
        exact ⟨_, .base (.lst h), by rcases hn with rfl | rfl | rfl | rfl | rfl <;> exact kit_ty (by decide +kernel)⟩
      | _ => simp [e1] at e
  | _ => cases e
theorem prim_ok (hc : X.calm = true) (hu : X.A.units + 64 < cLine) {m : Bool} (p : Prim) (hp : primOk p = true) : CallR X (primV p) (RLD X.K (primD m p)) := by
  rintro pins s σ H xs us Q I r ⟨W, S, as, rfl, R, ra, P⟩
  cases p with
  | len =>
    cases ra with
    | nil => exact P.no.elim
    | cons ra t =>
      cases t with
      | cons _ _ => exact P.no.elim
      | nil =>
        rename_i a x
        obtain ⟨n, e, P⟩ := P.opt
        have q := P.val R (.int n)
        have seq : ∀ {l : List AV}, (∃ p ys, x = .ref p ∧ (SqL X.K W.H p ys ∨ SqT X.K W.H p ys) ∧ RVs X.K W l ys) → l.length = n → wpAny (model X.prog X.w) X.A (call (.builtin "len") us) (EP X pins σ Q) X.xe s := by
          rintro l ⟨p, ys, rfl, h, r1⟩ hl
          exact call_len_seq pins s σ W.H _ us Q I r ⟨p, ys, rfl, h, by rw [← r1.len, hl]; exact q⟩
        have gen : ∀ {l : List AV}, itemsOf S a = some l → l.length = n → wpAny (model X.prog X.w) X.A (call (.builtin "len") us) (EP X pins σ Q) X.xe s := fun h hl => seq (items_it R ra h) hl
        cases a with
        | str z =>
          cases ra
          simp only [lenD] at e
          split at e
          · rename_i hz
            cases e
            exact call_len_str pins s σ W.H _ us Q I r ⟨z, rfl, hz, q⟩
          · cases e
        | loc i =>
          simp only [lenD] at e
          cases e1 : S[i]? with
          | none => simp [e1] at e
          | some o =>
            cases o with
            | lst l =>
              simp only [e1] at e
              exact gen (l := l) (by simp [itemsOf, e1]) (Option.some.inj e)
            | dct lk l =>
              cases lk with
              | true => simp [e1] at e
              | false =>
                simp only [e1] at e
                obtain ⟨ys, h1, h2⟩ := R.obj i _ e1
                cases ra with
                | loc hi =>
                  refine call_lenD pins s σ W.H _ us Q I r ⟨W.φ i, ys, rfl, h1, ?_⟩
                  rw [← h2.len, Option.some.inj e]; exact q
            | _ => simp [e1] at e
        | tup l => exact gen (l := l) rfl (by simpa [lenD, itemsOf] using e)
        | lst l => exact gen (l := l) rfl (by simpa [lenD, itemsOf] using e)
        | scr l => exact gen (l := l.map .int) rfl (by simpa [lenD, itemsOf] using e)
        | ktp l => exact gen (l := l) rfl (by simpa [lenD, itemsOf] using e)
        | ftp l => exact gen (l := l) rfl (by simpa [lenD, itemsOf] using e)
        | _ => simp [lenD, itemsOf] at e
  | abs =>
    cases ra with
    | nil => exact P.no.elim
    | cons ra t => cases t with
      | cons _ _ => cases ra <;> exact P.no.elim
      | nil =>
        cases ra with
        | int i => exact call_abs pins s σ W.H _ us Q I r ⟨i, rfl, P.val R (.int _)⟩
        | _ => exact P.no.elim
  | min2 =>
    cases ra with
    | nil => exact P.no.elim
    | cons ra t => cases t with
      | nil => cases ra <;> exact P.no.elim
      | cons rb t => cases t with
        | cons _ _ => cases ra <;> cases rb <;> exact P.no.elim
        | nil =>
          cases ra with
          | int i => cases rb with
            | int j => exact call_min2 hc pins s σ W.H _ us Q I r ⟨i, j, rfl, P.val R (.int _)⟩
            | _ => exact P.no.elim
          | _ => cases rb <;> exact P.no.elim
  | max2 =>
    cases ra with
    | nil => exact P.no.elim
    | cons ra t => cases t with
      | nil => cases ra <;> exact P.no.elim
      | cons rb t => cases t with
        | cons _ _ => cases ra <;> cases rb <;> exact P.no.elim
        | nil =>
          cases ra with
          | int i => cases rb with
            | int j => exact call_max2 hc pins s σ W.H _ us Q I r ⟨i, j, rfl, P.val R (.int _)⟩
            | _ => exact P.no.elim
          | _ => cases rb <;> exact P.no.elim
  | minL =>
    cases ra with
    | nil => exact P.no.elim
    | cons ra t => cases t with
      | cons _ _ => exact P.no.elim
      | nil =>
        obtain ⟨p, ns, rfl, h, P⟩ := ints_it R ra P
        obtain ⟨i, e, P⟩ := P.opt
        obtain ⟨h1, h2⟩ := leastI_ok e
        refine cr_min hc pins s σ W.H _ us Q I r ⟨p, ns, rfl, h, List.length_pos_of_mem h1, fun m k1 k2 => ?_⟩
        have : m = i := by have := h2 m k1; have := k2 i h1; omega
        rw [this]; exact P.val R (.int _)
  | maxL =>
    cases ra with
    | nil => exact P.no.elim
    | cons ra t => cases t with
      | cons _ _ => exact P.no.elim
      | nil =>
        obtain ⟨p, ns, rfl, h, P⟩ := ints_it R ra P
        obtain ⟨i, e, P⟩ := P.opt
        obtain ⟨h1, h2⟩ := mostI_ok e
        refine cr_max hc pins s σ W.H _ us Q I r ⟨p, ns, rfl, h, List.length_pos_of_mem h1, fun m k1 k2 => ?_⟩
        have : m = i := by have := h2 m k1; have := k2 i h1; omega
        rw [this]; exact P.val R (.int _)
  | sum =>
    cases ra with
    | nil => exact P.no.elim
    | cons ra t => cases t with
      | cons _ _ => exact P.no.elim
      | nil =>
        obtain ⟨p, ns, rfl, h, P⟩ := ints_it R ra P
        exact cr_sum hc pins s σ W.H _ us Q I r ⟨p, ns, rfl, h, P.val R (.int _)⟩
  | sorted =>
    cases ra with
    | nil => exact P.no.elim
    | cons ra t => cases t with
      | cons _ _ => exact P.no.elim
      | nil =>
        obtain ⟨p, ns, rfl, h, P⟩ := ints_it R ra P
        refine cr_sortedI pins s σ W.H _ us Q I r ⟨p, ns, rfl, h, fun ns' q k1 k2 hq => ?_⟩
        have : ns' = sortI ns := sorted_one (k1.trans (sortI_perm ns).symm) k2 (sortI_pair ns)
        rw [this]
        exact P.mk R (RVs.ints _) hq
  | tuple =>
    cases ra with
    | nil => exact P.no.elim
    | cons ra t => cases t with
      | cons _ _ => cases ra <;> exact P.no.elim
      | nil =>
        rename_i a x
        have P' : (∃ l, a = .tup l ∧ PostO X.K W (.ok (.tup l) S) Q) ∨ PostO X.K W (optD (lstOf S a) fun l => .ok (.tup l) S) Q := by
          cases a with
          | tup l => exact .inl ⟨l, rfl, P⟩
          | _ => exact .inr P
        rcases P' with ⟨l, rfl, P⟩ | P
        · obtain ⟨p, ys, rfl, h, r1⟩ := ra.itT
          exact call_tuple_of pins s σ W.H _ us Q I r ⟨p, ys, rfl, .inr ⟨h, P.val R ra⟩⟩
        · obtain ⟨l, e, P⟩ := P.opt
          obtain ⟨p, ys, rfl, h, r1⟩ := lst_it R ra e
          exact call_tuple_of pins s σ W.H _ us Q I r ⟨p, ys, rfl, .inl ⟨SqL.of h, fun q hq => P.tup R r1 hq⟩⟩
  | list =>
    cases ra with
    | nil => exact P.no.elim
    | cons ra t => cases t with
      | cons _ _ => cases ra <;> exact P.no.elim
      | nil =>
        rename_i a x
        have P' : (∃ l, a = .tup l ∧ PostO X.K W (mkL m l S) Q) ∨ PostO X.K W (optD (lstOf S a) fun l => mkL m l S) Q := by
          cases a with
          | tup l => exact .inl ⟨l, rfl, P⟩
          | _ => exact .inr P
        rcases P' with ⟨l, rfl, P⟩ | P
        · obtain ⟨p, ys, rfl, h, r1⟩ := ra.itT
          exact call_list_of pins s σ W.H _ us Q I r ⟨p, ys, rfl, .inr h, fun q hq => P.mk R r1 hq⟩
        · obtain ⟨l, e, P⟩ := P.opt
          obtain ⟨p, ys, rfl, h, r1⟩ := lst_it R ra e
          exact call_list_of pins s σ W.H _ us Q I r ⟨p, ys, rfl, .inl (SqL.of h), fun q hq => P.mk R r1 hq⟩
  | int =>
    cases ra with
    | nil => exact P.no.elim
    | cons ra t => cases t with
      | cons _ _ => cases ra <;> exact P.no.elim
      | nil =>
        cases ra with
        | int i => exact call_int1 pins s σ W.H _ us Q I r (.inl ⟨i, rfl, P.val R (.int _)⟩)
        | bl b => exact call_int1 pins s σ W.H _ us Q I r (.inr ⟨b, rfl, P.val R (.int _)⟩)
        | _ => exact P.no.elim
  | all =>
    cases ra with
    | nil => exact P.no.elim
    | cons ra t => cases t with
      | cons _ _ => exact P.no.elim
      | nil =>
        obtain ⟨p, ns, rfl, h, P⟩ := bls_it R ra P
        exact cr_all hc pins s σ W.H _ us Q I r ⟨p, ns, rfl, h, P.val R (.bl _)⟩
  | any =>
    cases ra with
    | nil => exact P.no.elim
    | cons ra t => cases t with
      | cons _ _ => exact P.no.elim
      | nil =>
        obtain ⟨p, ns, rfl, h, P⟩ := bls_it R ra P
        exact cr_any hc pins s σ W.H _ us Q I r ⟨p, ns, rfl, h, P.val R (.bl _)⟩
  | divmod =>
    cases ra with
    | nil => exact P.no.elim
    | cons ra t => cases t with
      | nil => cases ra <;> exact P.no.elim
      | cons rb t => cases t with
        | cons _ _ => cases ra <;> cases rb <;> exact P.no.elim
        | nil =>
          cases ra with
          | int i => cases rb with
            | int j =>
              obtain ⟨⟨h1, h2⟩, P⟩ := P.ite
              exact call_divmod pins s σ W.H _ us Q I r ⟨i, j, rfl, ⟨h1, h2⟩, fun p hp => P.tup R (.cons (.int _) (.cons (.int _) .nil)) hp⟩
            | _ => exact P.no.elim
          | _ => cases rb <;> exact P.no.elim
  | isi =>
    cases ra with
    | nil => exact P.no.elim
    | cons ra t => cases t with
      | nil => exact P.no.elim
      | cons rb t => cases t with
        | cons _ _ => cases rb <;> exact P.no.elim
        | nil =>
          cases rb with
          | ty n =>
            obtain ⟨hn, P⟩ := P.ite
            obtain ⟨b, e, P⟩ := P.opt
            have hn : n = "int" ∨ n = "bool" ∨ n = "str" ∨ n = "tuple" ∨ n = "list" := by simpa [tyB, or_assoc] using hn
            obtain ⟨t, h1, h2⟩ := isTy_ok hn R ra e
            exact call_isi pins s σ W.H _ us Q I r ⟨_, _, t, _, b, rfl, .ty n, h1, h2, P.val R (.bl b)⟩
          | _ => exact P.no.elim
  | minT =>
    cases ra with
    | nil => exact P.no.elim
    | cons ra t => cases t with
      | cons _ _ => exact P.no.elim
      | nil => exact cr_minT hc (by omega) pins s σ W.H _ us Q I r ⟨W, S, _, _, rfl, rfl, R, ra, P⟩
  | sortT =>
    cases ra with
    | nil => exact P.no.elim
    | cons ra t => cases t with
      | cons _ _ => exact P.no.elim
      | nil => exact cr_sortT (m := m) (by omega) pins s σ W.H _ us Q I r ⟨W, S, _, _, rfl, rfl, R, ra, P⟩
  | sumT =>
    cases ra with
    | nil => exact P.no.elim
    | cons ra t => cases t with
      | cons _ _ => cases ra <;> exact P.no.elim
      | nil =>
        rename_i a x
        cases a with
        | tup l =>
          obtain ⟨ns, e, P2⟩ := P.opt
          clear P
          have el := intsOf_eq e
          subst el
          obtain ⟨p, ys, rfl, h, r1⟩ := ra.itT
          have ex := RVs.of_ints r1
          subst ex
          exact cr_sumT hc pins s σ W.H _ us Q I r ⟨p, ns, rfl, h, P2.val R (.int _)⟩
        | _ => exact P.no.elim
  | minI =>
    cases ra with
    | nil => exact P.no.elim
    | cons ra t => cases t with
      | cons _ _ => cases ra <;> exact P.no.elim
      | nil =>
        rename_i a x
        cases a with
        | tup l =>
          obtain ⟨ns, e, P1⟩ := P.opt
          obtain ⟨m, e2, P2⟩ := P1.opt
          clear P P1
          have el := intsOf_eq e
          subst el
          obtain ⟨p, ys, rfl, h, r1⟩ := ra.itT
          have ex := RVs.of_ints r1
          subst ex
          obtain ⟨h1, h2⟩ := leastI_ok e2
          exact cr_minI hc (by omega) pins s σ W.H _ us Q I r ⟨p, ns, m, rfl, h, h1, h2, P2.val R (.int _)⟩
        | _ => exact P.no.elim
  | _ => cases hp
end
end VI

set_option maxRecDepth 100000
set_option maxHeartbeats 3200000
/-! VIS: the set of a list, of a tuple of ints, and its ints in order. -/
namespace VI
open PySem PySem.Spec PyProof.Rows L2
section
variable {P : Program} {w : World} {A : Around} {E : Value → Shared → Prop} {s : Shared}
/-- a set of nothing, newly made -/
def objE (w : World) : Obj :=
  { cls := .type "set", dict := none
    data := .set #[] 0 (.fresh 0 0 (!w.params.followText "set-order")) }
def itE (l : Addr) : Obj := { cls := .type "list_iterator", data := .fields #[.ref l, .int 0 0] }
/-- the ints of a list go into a set of nothing -/
theorem loop_fill {hp : Heap} {a l : Addr} {items : Array Value} {ns : List Int} {R : Result → Shared → Prop} (hh : A.in1.handled = none) (he : hp.get? a = some (objE w)) (hL : hp.IsList l items) (hal : a ≠ l) (hI : IntsAre items.toList ns) (hsm : ns.length + 1 < scanBound)
    (k : ∀ hp2 tk c, c ≤ ns.length → SetR w hp2 a (fun j => decide (j ∈ ns)) c → (∀ b o, b ≠ a → hp.get? b = some o → hp2.get? b = some o) → R (.ok (.ret .none)) { s with heap := hp2, toks := tk }) :
    codeAny (model P w) A (.builtin "set.update.loop" ⟨[.ref a, .ref hp.objs.size], []⟩) R { s with heap := hp.push (itE l) } := by
  have hn : items.size = ns.length := (Array.length_toList (xs := items)).symm.trans (IntsAre.length hI)
  obtain ⟨o1, g1, _⟩ := id hL
  have la : a < hp.objs.size := Heap.lt_size he
  have ll : l < hp.objs.size := Heap.lt_size g1
  have away : a ∉ [hp.objs.size, l] := by
    intro q
    rcases List.mem_cons.1 q with q | q
    · exact absurd q (Nat.ne_of_lt la)
    · exact hal (List.mem_singleton.1 q)
  refine set_update_ints ((Walks.list hh _ l (Nat.ne_of_lt ll) items).toS) a away ns hn hsm (fun i v e => ?_) items.size 0 _ (Nat.sub_zero _) (Nat.zero_le _) ⟨⟨_, Heap.get?_push_size _ rfl, rfl, rfl⟩, hL.push _⟩ ⟨0, Nat.le_refl 0, setR_new_at (Heap.get?_push_of_some _ he)⟩ ?_
  · have hlt : i < ns.length := hn ▸ (Array.getElem?_eq_some_iff.mp e).1
    obtain ⟨t, q⟩ := IntsAre.int_at hI i v (by rwa [Array.getElem?_toList])
    exact ⟨ns[i], t, List.getElem?_eq_getElem hlt, by rw [q]; simp [List.getD, hlt]⟩
  · intro s2 c mv hc r
    have q := k s2.heap s2.toks c (hn ▸ hc) r fun b o hb g => mv.heap b o (fun z => ?_) (Heap.get?_push_of_some _ g)
    · have e : s2 = { s with heap := s2.heap, toks := s2.toks } := by
        have e1 := mv.gens
        have e2 := mv.drawn
        have e3 := mv.os
        cases s2
        simp only at e1 e2 e3
        subst e1 e2 e3
        rfl
      rw [e]; exact q
    · rcases List.mem_cons.1 z with z | z
      · exact hb z
      · exact absurd (List.mem_singleton.1 z) (Nat.ne_of_lt (Heap.lt_size g))
def itTu (l : Addr) : Obj := { cls := .type "tuple_iterator", data := .fields #[.ref l, .int 0 0] }
/-- .. of a tuple -/
theorem fillT {hp : Heap} {a l : Addr} {items : Array Value} {ns : List Int} {R : Result → Shared → Prop} (hh : A.in1.handled = none) (he : hp.get? a = some (objE w)) (hT : hp.IsTuple l items) (hal : a ≠ l) (hI : IntsAre items.toList ns) (hsm : ns.length + 1 < scanBound)
    (k : ∀ hp2 tk c, c ≤ ns.length → SetR w hp2 a (fun j => decide (j ∈ ns)) c → (∀ b o, b ≠ a → hp.get? b = some o → hp2.get? b = some o) → R (.ok (.ret .none)) { s with heap := hp2, toks := tk }) :
    codeAny (model P w) A (.builtin "set.update.loop" ⟨[.ref a, .ref hp.objs.size], []⟩) R { s with heap := hp.push (itTu l) } := by
  obtain ⟨o1, g1, _⟩ := id hT
  have hla : a < hp.objs.size := Heap.lt_size he
  have hll : l < hp.objs.size := Heap.lt_size g1
  have hlen : items.size = ns.length := by rw [← IntsAre.length hI, Array.length_toList]
  have out : a ∉ [hp.objs.size, l] := fun q => by
    simp only [List.mem_cons, List.not_mem_nil, or_false] at q
    rcases q with q | q
    · rw [q] at hla; exact absurd hla (Nat.lt_irrefl _)
    · exact hal q
  refine set_update_ints ((Walks.tuple hh _ l (Nat.ne_of_lt hll) items).toS) a out ns hlen hsm (fun i v e => ?_) items.size 0 _ (Nat.sub_zero _) (Nat.zero_le _) ⟨⟨_, Heap.get?_push_size _ rfl, rfl, rfl⟩, hT.push _⟩ ⟨0, Nat.zero_le _, setR_new_at (Heap.get?_push_of_some _ he)⟩ ?_
  · have hi : i < ns.length := by
      obtain ⟨q, _⟩ := Array.getElem?_eq_some_iff.mp e
      omega
    obtain ⟨t, q⟩ := IntsAre.int_at hI i v (by rw [Array.getElem?_toList]; exact e)
    exact ⟨ns[i], t, List.getElem?_eq_getElem hi, by rw [q]; simp [List.getD, hi]⟩
  · intro s2 c mv hc r
    have kp : ∀ b o, b ≠ a → hp.get? b = some o → s2.heap.get? b = some o := fun b o hb g => mv.heap b o (fun z => by
      simp only [List.mem_cons, List.not_mem_nil, or_false] at z
      rcases z with z | z
      · exact hb z
      · exact Nat.ne_of_lt (Heap.lt_size g) z) (Heap.get?_push_of_some _ g)
    have e : { s with heap := s2.heap, toks := s2.toks } = s2 := by
      have h1 := mv.gens
      have h2 := mv.drawn
      have h3 := mv.os
      cases s2
      simp only at h1 h2 h3
      subst h1 h2 h3
      rfl
    have q := k s2.heap s2.toks c (hlen ▸ hc) r kp
    rwa [e] at q
theorem tup_set : isSubtype (.type "tuple") (.type "set") = pure false := by rw [isSubtype_type]; kernel_rfl
theorem tup_frozen : isSubtype (.type "tuple") (.type "frozenset") = pure false := by rw [isSubtype_type]; kernel_rfl
/-- what the set's init does -/
def Made (w : World) (s : Shared) (ns : List Int) (s2 : Shared) : Prop := ∃ hp tk c, s2 = { s with heap := hp, toks := tk } ∧ c ≤ ns.length ∧ SetR w hp s.heap.objs.size (fun j => decide (j ∈ ns)) c ∧ ∀ b o, s.heap.get? b = some o → hp.get? b = some o
theorem call_setL {l : Addr} {items : Array Value} {ns : List Int} {Q : Value → Shared → Prop} (hh : A.handled = none) (hL : s.heap.IsList l items) (hI : IntsAre items.toList ns) (hsm : ns.length + 1 < scanBound)
    (k : ∀ s2, Made w s ns s2 → Q (.ref s.heap.objs.size) s2) : wpAny (model P w) A (call (.type "set") [.ref l]) Q E s := by
  have ⟨c, tl, hmro⟩ := F.called_set.mro
  have made := F.called_set.made
  have sub := F.called_set.sub
  have nt := F.called_set.notType
  have cc := F.called_set.canCreate
  have tc := F.typeCall_set_1 (.ref l)
  have look := F.called_set.init.lookup
  have bnd := F.called_set.init.bind (.ref s.heap.objs.size)
  refine wpAny_call (codeAny_of_tree (wpAny_pure ⟨Code.quiet_builtin _ (by decide +kernel), codeAny_builtin F.entry_type_call ?_⟩))
  rw [Around.under_plain (weight_type_call_type "set" _ _) rfl]
  repeat any_goals first | assumption | wp_step
  refine codeAny_mono (code_set_led1 (E := E) (.ref l) (Q₁ := fun v t => v = .ref s.heap.objs.size ∧ t = { s with heap := s.heap.push (objE w) }) ⟨rfl, rfl⟩) fun r t q => ?_
  rcases r with e | f
  · exact q
  · cases f with
    | ret v =>
      obtain ⟨rfl, rfl⟩ := q
      have g0 : (s.heap.push (objE w)).get? s.heap.objs.size = some (objE w) := Heap.get?_push_size _ rfl
      have ty : Shared.TypeIs { s with heap := s.heap.push (objE w) } (.ref s.heap.objs.size) "set" := ⟨_, g0, rfl⟩
      repeat any_goals first | assumption | wp_step
      refine codeAny_mono (codeAny_call_builtin (R := wants (fun v t => v = .none ∧ Made w s ns t) E) F.called_set.init.plain F.entry_set_init (check_set_init_1 ty ?_)) fun r2 t2 q2 => ?_
      · have L1 : (s.heap.push (objE w)).IsList l items := hL.push _
        have d1 := F.sub_list_set
        have d2 := F.sub_list_frozenset
        have d3 : (Value.type "list" == Value.type "dict") = false := by decide
        obtain ⟨⟨cls, dct, dat, slots⟩, g1, c1, n1, e1⟩ := id L1
        simp only at c1 e1
        subst c1 e1
        unfold Builtin.«set.__init__» noKeywords Builtin.Frozenset.updateFrom
        generalize hj : pyIter = walkIt
        wp_walk
        subst hj
        refine wpAny_pyIter_list L1 (wpAny_bind (wpAny_runValue ?_))
        have ll : l ≠ s.heap.objs.size := by
          obtain ⟨o, g, _⟩ := id hL
          exact Nat.ne_of_lt (Heap.lt_size g)
        refine loop_fill (s := s) (by simp [hh]) g0 L1 (Ne.symm ll) hI hsm fun hp2 tk c hc r kp => ?_
        refine wpAny_pure (wpAny_pure ⟨rfl, hp2, tk, c, rfl, hc, r, fun b o g => ?_⟩)
        exact kp b o (Nat.ne_of_lt (Heap.lt_size g)) (Heap.get?_push_of_some _ g)
      · rcases r2 with e | f
        · exact q2
        · cases f with
          | ret v =>
            obtain ⟨rfl, mk⟩ := q2
            repeat any_goals first | assumption | wp_step
            exact k _ mk
          | _ => exact q2.elim
    | _ => exact q.elim
theorem call_setT {l : Addr} {items : Array Value} {ns : List Int} {Q : Value → Shared → Prop} (hh : A.handled = none) (hT : s.heap.IsTuple l items) (hI : IntsAre items.toList ns) (hsm : ns.length + 1 < scanBound)
    (k : ∀ s2, Made w s ns s2 → Q (.ref s.heap.objs.size) s2) : wpAny (model P w) A (call (.type "set") [.ref l]) Q E s := by
  have ⟨c, tl, hmro⟩ := F.called_set.mro
  have made := F.called_set.made
  have sub := F.called_set.sub
  have nt := F.called_set.notType
  have cc := F.called_set.canCreate
  have tc := F.typeCall_set_1 (.ref l)
  have look := F.called_set.init.lookup
  have bnd := F.called_set.init.bind (.ref s.heap.objs.size)
  refine wpAny_call (codeAny_of_tree (wpAny_pure ⟨Code.quiet_builtin _ (by decide +kernel), codeAny_builtin F.entry_type_call ?_⟩))
  rw [Around.under_plain (weight_type_call_type "set" _ _) rfl]
  repeat any_goals first | assumption | wp_step
  refine codeAny_mono (code_set_led1 (E := E) (.ref l) (Q₁ := fun v t => v = .ref s.heap.objs.size ∧ t = { s with heap := s.heap.push (objE w) }) ⟨rfl, rfl⟩) fun r t q => ?_
  rcases r with e | f
  · exact q
  · cases f with
    | ret v =>
      obtain ⟨rfl, rfl⟩ := q
      have g0 : (s.heap.push (objE w)).get? s.heap.objs.size = some (objE w) := Heap.get?_push_size _ rfl
      have ty : Shared.TypeIs { s with heap := s.heap.push (objE w) } (.ref s.heap.objs.size) "set" := ⟨_, g0, rfl⟩
      repeat any_goals first | assumption | wp_step
      refine codeAny_mono (codeAny_call_builtin (R := wants (fun v t => v = .none ∧ Made w s ns t) E) F.called_set.init.plain F.entry_set_init (check_set_init_1 ty ?_)) fun r2 t2 q2 => ?_
      · have L1 : (s.heap.push (objE w)).IsTuple l items := hT.push _
        have d1 := tup_set
        have d2 := tup_frozen
        have d3 : (Value.type "tuple" == Value.type "dict") = false := by decide
        obtain ⟨⟨cls, dct, dat, slots⟩, g1, c1, n1, e1⟩ := id L1
        simp only at c1 e1
        subst c1 e1
        unfold Builtin.«set.__init__» noKeywords Builtin.Frozenset.updateFrom
        generalize hj : pyIter = walkIt
        wp_walk
        subst hj
        refine wpAny_pyIter_tuple L1 (wpAny_bind (wpAny_runValue ?_))
        have ll : l ≠ s.heap.objs.size := by
          obtain ⟨o, g, _⟩ := id hT
          exact Nat.ne_of_lt (Heap.lt_size g)
        refine fillT (s := s) (by simp [hh]) g0 L1 (Ne.symm ll) hI hsm fun hp2 tk c hc r kp => ?_
        refine wpAny_pure (wpAny_pure ⟨rfl, hp2, tk, c, rfl, hc, r, fun b o g => ?_⟩)
        exact kp b o (Nat.ne_of_lt (Heap.lt_size g)) (Heap.get?_push_of_some _ g)
      · rcases r2 with e | f
        · exact q2
        · cases f with
          | ret v =>
            obtain ⟨rfl, mk⟩ := q2
            repeat any_goals first | assumption | wp_step
            exact k _ mk
          | _ => exact q2.elim
    | _ => exact q.elim
end
/-! the ints of a list, each once, rising -/
theorem mem_insI {x y : Int} : ∀ {l : List Int}, y ∈ insI x l ↔ y = x ∨ y ∈ l
  | [] => by simp [insI]
  | z :: l => by
    unfold insI
    split
    · simp
    · simp only [List.mem_cons, mem_insI (l := l)]
      constructor
      · rintro (h | h | h)
        · exact .inr (.inl h)
        · exact .inl h
        · exact .inr (.inr h)
      · rintro (h | h | h)
        · exact .inr (.inl h)
        · exact .inl h
        · exact .inr (.inr h)
theorem mem_sortI {y : Int} : ∀ {l : List Int}, y ∈ sortI l ↔ y ∈ l
  | [] => by simp [sortI]
  | z :: l => by rw [sortI, mem_insI, mem_sortI (l := l), List.mem_cons]
theorem mem_dedI {y : Int} : ∀ {l : List Int}, y ∈ dedI l ↔ y ∈ l
  | [] => by simp [dedI]
  | z :: l => by
    unfold dedI
    split
    · rename_i h
      rw [mem_dedI (l := l), List.mem_cons]
      exact ⟨.inr, fun q => q.elim (fun e => e ▸ h) id⟩
    · rw [List.mem_cons, mem_dedI (l := l), List.mem_cons]
theorem nodup_dedI : ∀ l : List Int, (dedI l).Nodup
  | [] => by simp [dedI]
  | z :: l => by
    unfold dedI
    split
    · exact nodup_dedI l
    · rename_i h
      exact List.nodup_cons.2 ⟨fun q => h (mem_dedI.1 q), nodup_dedI l⟩
theorem pw_insI {x : Int} : ∀ {l : List Int}, l.Pairwise (· < ·) → x ∉ l → (insI x l).Pairwise (· < ·)
  | [], _, _ => by simp [insI]
  | z :: l, h, hx => by
    have h2 := List.pairwise_cons.1 h
    have hne : x ≠ z := fun e => hx (by rw [e]; exact .head _)
    unfold insI
    split
    · rename_i hl
      refine List.pairwise_cons.2 ⟨fun y hy => ?_, h⟩
      rcases List.mem_cons.1 hy with rfl | hy
      · omega
      · have := h2.1 y hy
        omega
    · rename_i hl
      refine List.pairwise_cons.2 ⟨fun y hy => ?_, pw_insI h2.2 fun q => hx (.tail _ q)⟩
      rcases mem_insI.1 hy with rfl | hy
      · omega
      · exact h2.1 y hy
theorem pw_sortI : ∀ {l : List Int}, l.Nodup → (sortI l).Pairwise (· < ·)
  | [], _ => by simp [sortI]
  | z :: l, h => by
    have h2 := List.nodup_cons.1 h
    exact pw_insI (pw_sortI h2.2) fun q => h2.1 (mem_sortI.1 q)
theorem pw_one : ∀ {xs ys : List Int}, xs.Pairwise (· < ·) → ys.Pairwise (· < ·) → (∀ k, k ∈ xs ↔ k ∈ ys) → xs = ys
  | [], [], _, _, _ => rfl
  | [], y :: ys, _, _, h => absurd ((h y).2 (.head _)) (by simp)
  | x :: xs, [], _, _, h => absurd ((h x).1 (.head _)) (by simp)
  | x :: xs, y :: ys, p, q, h => by
    have p2 := List.pairwise_cons.1 p
    have q2 := List.pairwise_cons.1 q
    have e : x = y := by
      rcases List.mem_cons.1 ((h x).1 (.head _)) with e | e
      · exact e
      · rcases List.mem_cons.1 ((h y).2 (.head _)) with e2 | e2
        · exact e2.symm
        · have := q2.1 x e
          have := p2.1 y e2
          omega
    subst e
    congr 1
    refine pw_one p2.2 q2.2 fun k => ⟨fun hk => ?_, fun hk => ?_⟩
    · rcases List.mem_cons.1 ((h k).1 (.tail _ hk)) with e | e
      · have := p2.1 k hk
        omega
      · exact e
    · rcases List.mem_cons.1 ((h k).2 (.tail _ hk)) with e | e
      · have := q2.1 k hk
        omega
      · exact e
def riseI (l : List Int) : List Int := sortI (dedI l)
theorem pw_riseI (l : List Int) : (riseI l).Pairwise (· < ·) := pw_sortI (nodup_dedI l)
theorem mem_riseI {l : List Int} {k : Int} : k ∈ riseI l ↔ k ∈ l := by rw [riseI, mem_sortI, mem_dedI]
section
variable {X : Cx}
/-- set(xs), xs a list of ints -/
def rSetL (K : PySem.W.Frag) (w : World) : List V → Hp → VK → Prop := fun xs H Q => ∃ (p : Addr) (ns : List Int), xs = [.ref p] ∧ (SqL K H p (ns.map V.int) ∨ SqT K H p (ns.map V.int)) ∧ ns.length ≤ 60 ∧
  ∀ q c, c ≤ ns.length → H q = none → Q (.ref q) (upd H q (SetO w q (fun j => decide (j ∈ ns)) c))
theorem cr_setL (hc : X.calm = true) : CallR X (.type "set") (rSetL X.K X.w) := by
  intro pins s σ H xs us Q I r h
  obtain ⟨p, ns, rfl, hq, hz, q⟩ := h
  rw [Vals.ref1 r]
  have fin : ∀ s2, Made X.w s ns s2 → EP X pins σ Q (.ref s.heap.objs.size) s2 := by
    rintro s2 ⟨hp, tk, c, rfl, hcn, R, kp⟩
    exact ⟨.ref _, upd H s.heap.objs.size (SetO X.w s.heap.objs.size (fun j => decide (j ∈ ns)) c), I.laid (t' := tk) (fun b u e => kp b u e) (Nat.le_refl _) (setO_new R), rfl, q _ c hcn (I.hok.fresh (Nat.le_refl _))⟩
  rcases hq with hq | hq
  · obtain ⟨its, rv, pt, hz2⟩ := I.list hq
    exact call_setL (I.ok.hd hc) (show s.heap.IsList p its.toArray from pt.isList) (ints_of_vals rv) (by unfold scanBound; omega) fin
  · obtain ⟨its, rv, pt, hz2⟩ := I.tuple hq
    exact call_setT (I.ok.hd hc) (show s.heap.IsTuple p its.toArray from pt) (ints_of_vals rv) (by unfold scanBound; omega) fin
end
end VI

set_option maxRecDepth 100000
set_option maxHeartbeats 3200000
/-! VIE: enumerate of a tuple. -/
namespace VI
open PySem PySem.Spec PyProof.Rows L2
open AutoSeq1 (wpAny_loadPart')
def itT (l : Addr) : Obj := { cls := .type "tuple_iterator", data := .fields #[.ref l, .int 0 0] }
def enO (it : Addr) : Obj := { cls := .type "enumerate", data := .fields #[.none, .bool false, .ref it, rawInt 0, .none, .none] }
theorem new_enumT (l : Addr) (items : Array Value) (n : Nat) (dct : Option Addr) (sl : Array (Option Value)) :
    Meets (Builtin.«enumerate.__new__» ⟨[.type "enumerate", .ref l], []⟩) fun _ R s => s.heap.get? l = some { cls := .type "tuple", dict := dct, data := .seq items n, slots := sl } ∧
      R (.ok (.ret (.ref (s.heap.push (itT l)).objs.size))) { s with heap := (s.heap.push (itT l)).push (enO s.heap.objs.size) } :=
  .of_wp fun prog w A R s h => by
    rcases s with ⟨hp, g, d, tk, os⟩
    have hl := h.1
    have hr := h.2
    have sube := sub_enumerate
    have tup : Heap.IsTuple (Shared.heap ⟨hp, g, d, tk, os⟩) l items := ⟨_, hl, rfl, n, rfl⟩
    wp_walk using wpAny_loadPart' hl
    refine wpAny_stack_any fun st => wpAny_pure ?_
    split
    · rename_i c _ _ _ _ _
      cases (c == Value.type "enumerate") <;>
        (wp_walk using wpAny_loadPart' hl, wpAny_pyIter_tuple tup
         exact ⟨_, rfl, hr⟩)
    · wp_walk using wpAny_loadPart' hl, wpAny_pyIter_tuple tup
      exact ⟨_, rfl, hr⟩

section
variable {prog : Program} {w : World} {A : Around} {E : Value → Shared → Prop} {s : Shared}
theorem call_enumT {l : Addr} {items : Array Value} {Q : Value → Shared → Prop} (tup : s.heap.IsTuple l items)
    (k : ∀ h', IsEnum h' (s.heap.objs.size + 1) s.heap.objs.size 0 .none → h'.IsTupleIter s.heap.objs.size l 0 → (∀ b o, s.heap.get? b = some o → h'.get? b = some o) → Q (.ref (s.heap.objs.size + 1)) { s with heap := h' }) :
    wpAny (model prog w) A (call (.type "enumerate") [.ref l]) Q E s := by
  obtain ⟨⟨cls, dct, dat, sl⟩, hl, hc, n, hd⟩ := tup
  simp only at hc hd
  subst hc hd
  refine callType_new F.called_enumerate (by decide) (F.typeCall_enumerate_1 _) (F.newCall_enumerate_1 _) (fun obj => F.args_object_init_2 obj _) F.entry_enumerate_new (new_enumT l items n dct sl) ⟨hl, ?_⟩
  have z : (s.heap.push (itT l)).objs.size = s.heap.objs.size + 1 := Heap.size_push ..
  have e1 : IsEnum ((s.heap.push (itT l)).push (enO s.heap.objs.size)) (s.heap.objs.size + 1) s.heap.objs.size 0 .none := by
    have q := Heap.get?_push_size (s.heap.push (itT l)) (o := enO s.heap.objs.size) rfl
    rw [z] at q
    exact q
  show _ ∧ _
  rw [z]
  exact ⟨⟨_, e1, rfl⟩, k _ e1 ⟨_, Heap.get?_push_of_some _ (Heap.get?_push_size _ rfl), rfl, rfl⟩ fun b o g => Heap.get?_push_of_some _ (Heap.get?_push_of_some _ g)⟩
end
/-- the items of a tuple, each in a new pair with its number -/
def IteT (K : PySem.W.Frag) (a : Addr) (xs : List V) : It :=
  ⟨fun i H => SqT K H a xs ∧ i < xs.length, fun i H v H' => ∃ T x, v = .ref T ∧ H T = none ∧ H' = upd H T (.tup [.int (i : Nat), x]) ∧ xs[i]? = some x, fun i H => SqT K H a xs ∧ i = xs.length⟩
theorem turn_enumT {P : Program} {w : World} {K : PySem.W.Frag} {elts : List Expr} {kk : Nat} {tpos : Pos} {xs : List V} (a e it : Addr) :
    Turn P w K (.Tuple elts kk tpos) (IteT K a xs) [e, it] e fun i h => (∃ old, IsEnum h e it ((i : Nat) : Int) old) ∧ h.IsTupleIter it a i ∧ e ≠ it ∧ a ≠ it ∧ a ≠ e where
  mem := List.mem_cons_self ..
  obj := fun i h st b hb => by
    obtain ⟨⟨old, he⟩, ⟨o, ho, hc, hd⟩, _⟩ := st
    rcases List.mem_cons.1 hb with rfl | hb
    · exact ⟨_, he, fun v q => nomatch q⟩
    · rw [List.mem_singleton.1 hb]
      exact ⟨o, ho, fun v q => by rw [hd] at q; cases q⟩
  keep := fun i h h' st k => by
    obtain ⟨⟨old, he⟩, hi, r⟩ := st
    exact ⟨⟨old, k e (by simp) _ he⟩, hi.at fun o q => k it (by simp) o q, r⟩
  item := by
    intro X hP hw hK hc i pins s σ H E I hf st hg
    subst hP hw hK
    obtain ⟨⟨old, he⟩, hit, hne, hai, hae⟩ := st
    obtain ⟨hq, hi⟩ := hg
    obtain ⟨its, rv, pt, hz⟩ := I.tuple hq
    have hx : xs[i]? = some xs[i] := List.getElem?_eq_getElem hi
    obtain ⟨u, hu, ru⟩ := rv.get hx
    have el : e < s.heap.objs.size := Heap.lt_size he
    have il : it < s.heap.objs.size := by obtain ⟨_, q, _⟩ := hit; exact Heap.lt_size q
    have hlen := rv.length
    have out : e ∉ [it, a] := by simp [hne, Ne.symm hae]
    refine wpAny_pyNext_enum_itemD (Draws.tuple (by simp [I.ok.hd hc]) it a hai its.toArray) he ⟨hit, pt⟩ (by simp; omega) hne out fun u' h' tk hu' ho st' hT hsz hk => ?_
    have eu : u' = u := by
      have q : its[i]? = some u' := by simpa using hu'
      rw [hu] at q
      exact (Option.some.inj q).symm
    subst eu
    refine ⟨_, rfl, wpAny_letOwnedTupleGo_enum (s := { s with heap := h', toks := tk + 1 }) ho fun h2 he2 sb => ?_⟩
    have t2 : h2.get? s.heap.objs.size = some { cls := .type "tuple", data := .seq #[.int i tk, u'] } := (sb.2 _ (Nat.ne_of_gt el)).trans hT
    have new : ObjOk X.prog X.w (upd H s.heap.objs.size (.tup [.int (i : Nat), xs[i]])) h2 s.heap.objs.size (.tup [.int (i : Nat), xs[i]]) :=
      ⟨by show 2 ≤ sizeLine; decide, [.int i tk, u'], .cons ⟨_, rfl⟩ (.cons ru .nil), ⟨_, t2, rfl, _, rfl⟩⟩
    have away : ∀ b ob, b ∉ [e, it] → s.heap.get? b = some ob → h2.get? b = some ob := fun b ob hb q => by
      have b1 : b ≠ e := fun z => hb (by simp [z])
      have b2 : b ≠ it := fun z => hb (by simp [z])
      exact (sb.2 b b1).trans (hk b ob b1 b2 q)
    have J : Inv X pins σ (upd H s.heap.objs.size (.tup [.int (i : Nat), xs[i]])) { s with heap := h2, toks := tk + 1 } := I.turnedNew (ch := [e, it]) away hf (Nat.le_refl _) new
    refine ⟨.ref s.heap.objs.size, _, J, rfl, ⟨_, xs[i], rfl, I.hok.fresh (Nat.le_refl _), rfl, hx⟩, ⟨⟨u', ?_⟩, st'.1.at fun o q => (sb.2 it (Ne.symm hne)).trans q, hne, hai, hae⟩, fun b hb => ?_⟩
    · rw [show ((i + 1 : Nat) : Int) = (i : Int) + 1 by omega]
      exact he2
    · have hb' : b < s.heap.objs.size := by
        rcases List.mem_cons.1 hb with rfl | hb
        · exact el
        · rw [List.mem_singleton.1 hb]; exact il
      rw [upd_ne (Nat.ne_of_lt hb')]
      exact (hf b hb).1
  done := by
    intro X hP hw hK hc i pins s σ H E I hf st hg
    subst hP hw hK
    obtain ⟨⟨old, he⟩, hit, hne, hai, hae⟩ := st
    obtain ⟨hq, hi⟩ := hg
    obtain ⟨its, rv, pt, hz⟩ := I.tuple hq
    have hlen := rv.length
    have ei : i = its.toArray.size := by simp; omega
    obtain ⟨f0, f1, f2, f3, f4, f5⟩ := hf it (by simp)
    refine wpAny_pyNext_enum_endD (Draws.tuple (by simp [I.ok.hd hc]) it a hai its.toArray) he ⟨by rw [← ei]; exact hit, pt⟩ fun h' eb => ⟨rfl, ?_⟩
    exact I.turned (t' := s.toks) (fun b o hb q => eb b o hb q) f0 f1 f3 f4 f5
  self := fun A i s Q E st h => let ⟨⟨_, he⟩, _⟩ := st; wpAny_pyIter_enum he h
/-- enumerate of a list or of a tuple -/
def iEnum2 (K : PySem.W.Frag) (ta : TA) : TI := fun σ H R => ta σ H fun vs H1 => (∃ a xs, vs = [.ref a] ∧ SqL K H1 a xs ∧ R (Ite K a) H1) ∨ ∃ a xs, vs = [.ref a] ∧ SqT K H1 a xs ∧ R (IteT K a xs) H1
theorem pi_enum2 {X : Cx} {e : Expr} {ta : TA} {p pos tpos : Pos} {elts : List Expr} {kk : Nat} (hg : Gl X "enumerate") (hm : X.mg "enumerate" = none) (ha : PA X [e] ta) (hs : starEach [e] X.env = [(false, eval e X.env)] := by rfl) :
    PI X (.Tuple elts kk tpos) (.Call (.Name "enumerate" p) [e] [] pos) (iEnum2 X.K ta) := by
  refine ⟨fun pins s σ H R I h => Call_ (ld_blt I hg hm boot_enumerate (PyProof.Rows.callWith_type1 (thn (ha.run pos pins s σ H _ I h) fun us s1 ⟨vs, H1, I1, r1, q1⟩ => ?_) hs rfl))⟩
  have fresh : ∀ b ∈ [s1.heap.objs.size + 1, s1.heap.objs.size], FpOk X pins H1 b := fun b hb => by
    have hle : s1.heap.objs.size ≤ b := by
      rcases List.mem_cons.1 hb with rfl | hb
      · exact Nat.le_succ _
      · rw [List.mem_singleton.1 hb]; exact Nat.le_refl _
    exact I1.fpOk hle (I1.hok.fresh hle)
  rcases q1 with ⟨a, xs, rfl, hq, q⟩ | ⟨a, xs, rfl, hq, q⟩
  · rw [Vals.ref1 r1]
    obtain ⟨its, rv, pt, hz⟩ := I1.list hq
    refine call_enumerate_list pt.isList fun h' he hit hsz kp => wpAny_pyIter_enum he ?_
    exact ⟨s1.heap.objs.size + 1, [s1.heap.objs.size + 1, s1.heap.objs.size], _, _, H1, rfl, I1.kept (t' := s1.toks) kp, turn_enum a (s1.heap.objs.size + 1) s1.heap.objs.size, ⟨⟨.none, he⟩, hit, Nat.succ_ne_self _⟩, fresh, q⟩
  · rw [Vals.ref1 r1]
    obtain ⟨its, rv, pt, hz⟩ := I1.tuple hq
    have al : a < s1.heap.objs.size := by
      obtain ⟨o, g, _⟩ := pt
      exact Heap.lt_size g
    refine call_enumT pt fun h' he hit kp => wpAny_pyIter_enum he ?_
    exact ⟨s1.heap.objs.size + 1, [s1.heap.objs.size + 1, s1.heap.objs.size], _, _, H1, rfl, I1.kept (t' := s1.toks) kp, turn_enumT a (s1.heap.objs.size + 1) s1.heap.objs.size, ⟨⟨.none, he⟩, hit, Nat.succ_ne_self _, Nat.ne_of_lt al, Nat.ne_of_lt (Nat.lt_succ_of_lt al)⟩, fresh, q⟩
end VI

set_option maxRecDepth 100000
set_option maxHeartbeats 3200000
/-! VIZ: enumerate of a zip of two lists or tuples. -/
namespace VI
open PySem PySem.Spec PyProof.Rows L2 RZ
open AutoSeq1 (wpAny_loadPart')
section
variable {prog : Program} {w : World} {A : Around} {E : Value → Shared → Prop} {s : Shared} {q Ti To p1 p2 : Addr} {fa fb : List Addr} {na nb i : Nat} {Pa Pb : Nat → Value → Prop} {Ga Gb : Nat → Heap → Prop} {x : Value} {f : Bool}
end
def itAt (t : Bool) (h : Heap) (p a : Addr) (i : Nat) : Prop := if t then h.IsTupleIter p a i else h.IsListIter p a i
theorem itAt.keep {t : Bool} {h h' : Heap} {p a : Addr} {i : Nat} (x : itAt t h p a i) (k : ∀ o, h.get? p = some o → h'.get? p = some o) : itAt t h' p a i := by
  cases t
  · exact (show h.IsListIter p a i from x).at fun o q => k o q
  · exact (show h.IsTupleIter p a i from x).at fun o q => k o q
theorem itAt.ob {t : Bool} {h : Heap} {p a : Addr} {i : Nat} (x : itAt t h p a i) : ∃ o, h.get? p = some o ∧ ∀ v, o.data ≠ .cell v := by
  cases t
  · obtain ⟨o, ho, _, hd⟩ := (show h.IsListIter p a i from x)
    exact ⟨o, ho, fun v q => by rw [hd] at q; cases q⟩
  · obtain ⟨o, ho, _, hd⟩ := (show h.IsTupleIter p a i from x)
    exact ⟨o, ho, fun v q => by rw [hd] at q; cases q⟩
structure Apart6 (e q Ti To p1 p2 a b : Addr) : Prop where
  S : ZipSep2 q Ti To p1 p2 [p1, a] [p2, b]
  eq : e ≠ q
  eI : e ≠ Ti
  eO : e ≠ To
  e1 : e ≠ p1
  e2 : e ≠ p2
  ap : a ≠ p1
  bp : b ≠ p2
end VI

set_option maxRecDepth 100000
set_option maxHeartbeats 1000000
/-! VI5: an expression of the text does what its twin in our language does. -/
namespace VI
open PySem PySem.Spec PyProof.Rows L2

/-! ### weaker readings -/
section
variable {X : Cx}
theorem _root_.L2.PE.w {e : Expr} {t t' : TE} (h : PE X e t) (f : ∀ σ H Q, t' σ H Q → t σ H Q) : PE X e t' := ⟨fun pins s σ H Q I q => h.run pins s σ H Q I (f _ _ _ q)⟩
theorem _root_.L2.PT.w {e : Expr} {t t' : TT} (h : PT X e t) (f : ∀ σ H Q, t' σ H Q → t σ H Q) : PT X e t' := ⟨fun pins s σ H Q I q => h.run pins s σ H Q I (f _ _ _ q)⟩
theorem _root_.L2.PW.w {e : Expr} {t t' : TT} (h : PW X e t) (f : ∀ σ H Q, t' σ H Q → t σ H Q) : PW X e t' := ⟨fun wh pins s σ H Q I q => h.run wh pins s σ H Q I (f _ _ _ q)⟩
theorem _root_.L2.PA.w {e : List Expr} {t t' : TA} (h : PA X e t) (f : ∀ σ H Q, t' σ H Q → t σ H Q) : PA X e t' := ⟨fun pos pins s σ H Q I q => h.run pos pins s σ H Q I (f _ _ _ q)⟩
theorem _root_.L2.PO.w {e : Option Expr} {t t' : TO} (h : PO X e t) (f : ∀ σ H Q, t' σ H Q → t σ H Q) : PO X e t' := ⟨fun pins s σ H Q I q => h.run pins s σ H Q I (f _ _ _ q)⟩
end

/-! ### the text against its twin -/
def odd : Expr → Bool
  | .Starred .. => true
  | .Slice .. => true
  | .Set .. => true
  | .NamedExpr .. => true
  | _ => false
def isIf : Expr → Bool
  | .IfExp .. => true
  | _ => false
/-- the tests that are a value's truth and no more -/
def plT : Expr → Bool
  | .UnaryOp .Not _ _ => false
  | .BoolOp .. => false
  | .IfExp .. => false
  | .Compare .. => false
  | _ => true
def isLc : Expr → Bool
  | .ListComp .. => true
  | .SetComp .. => true
  | .DictComp .. => true
  | _ => false
/-- a call without arguments: super() is one -/
def isC0 : Expr → Bool
  | .Call (.Name _ _) [] [] _ => true
  | _ => false
def visB (sc : Scope) (x : Str) : Bool := match sc.names.lookup x with
  | some .local => true
  | some .cell => true
  | some .free => true
  | _ => false
def glB (sc : Scope) (x : Str) : Bool := (match sc.names.lookup x with
  | some .globalImplicit => true
  | _ => false) && !(x == ("__debug__" : Str))
def locB (sc : Scope) (B : Str → Bool) (x : Str) : Bool := match sc.names.lookup x with
  | some .local => true
  | some .cell => B x
  | _ => false
def mthN : Mth → String
  | .append => "append"
  | .pop0 => "pop"
  | .pop => "pop"
  | .index => "index"
  | .count => "count"
  | .get => "get"
  | .popD => "pop"
  | .join => "join"
  | .split => "split"
  | .index2 => "index"
def mthOk : Mth → Bool
  | .append => true
  | .pop0 => true
  | .pop => true
  | .index => true
  | .index2 => true
  | .count => true
  | _ => false

mutual
def ceT (N : List Str) (sc : Scope) (B : Str → Bool) : Tg → Expr → Bool
  | .n i, e => match e with
    | .Name x _ => decide (N[i]? = some x) && locB sc B x
    | _ => false
  | .tup t, e => match e with
    | .Tuple es _ _ => ceTs N sc B t es
    | _ => false
  | _, _ => false
def ceTs (N : List Str) (sc : Scope) (B : Str → Bool) : Tg → List Expr → Bool
  | .nil, es => match es with
    | [] => true
    | _ => false
  | .cons t r, es => match es with
    | e :: es => ceT N sc B t e && ceTs N sc B r es
    | [] => false
  | _, _ => false
end
def cstB : Const → AV → Bool
  | .int i, .int j => i == j
  | .bool b, .bl c => b == c
  | .none, .non => true
  | .str x, .str y => x == y
  | _, _ => false
mutual
def ce (N : List Str) : E → Scope → Expr → Bool
  | .v i, sc, e => match e with
    | .Name x _ => decide (N[i]? = some x) && visB sc x && !(x == ("__debug__" : Str)) && !(x == ("__classdict__" : Str))
    | _ => false
  | .c a, _, e => match e with
    | .Constant k _ _ => cstB k a
    | _ => false
  | .g y _, sc, e => match e with
    | .Name x _ => decide (x = y) && glB sc x
    | _ => false
  | .bt n, sc, e => match e with
    | .Name x _ => decide (x = Str.ofString n) && glB sc x && tyB n
    | _ => false
  | .bin _ o a b, sc, e => match e with
    | .BinOp x op y _ => decide (op = opB o) && bOk o && ce N a sc x && ce N b sc y
    | _ => false
  | .neg a, sc, e => match e with
    | .UnaryOp .USub x _ => ce N a sc x
    | _ => false
  | .not a, sc, e => match e with
    | .UnaryOp .Not x _ => ce N a sc x && !isIf x
    | _ => false
  | .cmp o a b, sc, e => match e with
    | .Compare x [op] [y] _ => decide (op = opC o) && ce N a sc x && ce N b sc y && !odd y
    | _ => false
  | .cmx F a b, sc, e => match e with
    | .Compare x [op] [y] _ => decide (op = opC F.o) && ce N a sc x && ce N b sc y && !odd y
    | _ => false
  | .chain o p a b c, sc, e => match e with
    | .Compare x [op, op'] [y, z] _ => decide (op = opC o) && decide (op' = opC p) && ce N a sc x && ce N b sc y && ce N c sc z && !odd z
    | _ => false
  | .and a b, sc, e => match e with
    | .BoolOp .And (x :: y :: r) p => ce N a sc x && !isIf x && (match r with
      | [] => ce N b sc y && !isIf y
      | _ :: _ => ce N b sc (.BoolOp .And (y :: r) p))
    | _ => false
  | .or a b, sc, e => match e with
    | .BoolOp .Or (x :: y :: r) p => ce N a sc x && !isIf x && (match r with
      | [] => ce N b sc y && !isIf y
      | _ :: _ => ce N b sc (.BoolOp .Or (y :: r) p))
    | _ => false
  | .ite c a b, sc, e => match e with
    | .IfExp t x y _ => ce N c sc t && !isIf t && ce N a sc x && ce N b sc y
    | _ => false
  | .tup l, sc, e => match e with
    | .Tuple es _ _ => ceL N l sc es
    | _ => false
  | .lst _ l, sc, e => match e with
    | .List es _ => ceL N l sc es
    | _ => false
  | .ix a i, sc, e => match e with
    | .Subscript x y _ => ce N a sc x && ce N i sc y && !odd y
    | _ => false
  | .sl _ a lo hi, sc, e => match e with
    | .Subscript x (.Slice l h none _) _ => ce N a sc x && (match l with
        | none => lo.isNop
        | some l => !lo.isNop && ce N lo sc l) && (match h with
        | none => hi.isNop
        | some h => !hi.isNop && ce N hi sc h)
    | _ => false
  | .rev _ a, sc, e => match e with
    | .Subscript x (.Slice none none (some (.UnaryOp .USub (.Constant (.int 1) _ _) _)) _) _ => ce N a sc x
    | _ => false
  | .call f _ l, sc, e => match e with
    | .Call (.Name x _) es [] _ => decide (x = f) && glB sc x && ceL N l sc es
    | _ => false
  | .prim _ p l, sc, e => match e with
    | .Call (.Name x _) (e1 :: es) [] _ => decide (x = Str.ofString (primN p)) && primOk p && glB sc x && ceL N l sc (e1 :: es)
    | _ => false
  | .met _ p r l, sc, e => match e with
    | .Call (.Attribute o nm ap) es [] cp => decide (nm = Str.ofString (mthN p)) && mthOk p && ce N r sc o && !isC0 o && (ap.endLine == cp.line) && decide (es.length < 20) && ceL N l sc es
    | _ => false
  | .comp _ own t it e1 cd, sc, e => match e with
    | .ListComp elt [⟨tg, iter, ifs, ay⟩] scope _ => decide (ay = 0) && blkC N sc scope (own.map fun i => (N.getD i ⟨#[]⟩, i)) && ceI N it sc tg iter && !odd iter && (t.slots.all fun i => own.contains i) && ceT N (relS scope sc) (fun x => scope.names.lookup x == some .cell) t tg &&
        ce N e1 (relS scope sc) elt && (match ifs with
          | [] => cd.isNop
          | [c] => !cd.isNop && ce N cd (relS scope sc) c && !isIf c
          | _ => false)
    | _ => false
  | .ext F l, sc, e => (plT e && !isLc e) && (match F.mat sc e with
    | some es => ceL N l sc es
    | none => false)
  | .sset _ a, sc, e => match e with
    | .Call (.Name l _) [.Call (.Name r _) [x] [] _] [] _ => decide (l = Str.ofString "sorted") && decide (r = Str.ofString "set") && glB sc l && glB sc r && ce N a sc x && !odd x
    | _ => false
  | .lrg2 _ a b, sc, e => match e with
    | .Call (.Name l _) [.Call (.Name r _) [x, y] [] _] [] _ => decide (l = Str.ofString "list") && decide (r = Str.ofString "range") && glB sc l && glB sc r && ce N a sc x && !odd x && ce N b sc y && !odd y
    | _ => false
  | .lrg3 _ a b c, sc, e => match e with
    | .Call (.Name l _) [.Call (.Name r _) [x, y, z] [] _] [] _ => decide (l = Str.ofString "list") && decide (r = Str.ofString "range") && glB sc l && glB sc r && ce N a sc x && !odd x && ce N b sc y && !odd y && ce N c sc z && !odd z
    | _ => false
  | .lrg _ a, sc, e => match e with
    | .Call (.Name l _) [.Call (.Name r _) [x] [] _] [] _ => decide (l = Str.ofString "list") && decide (r = Str.ofString "range") && glB sc l && glB sc r && ce N a sc x && !odd x
    | _ => false
  | _, _, _ => false
def ceL (N : List Str) : E → Scope → List Expr → Bool
  | .nil, _, es => match es with
    | [] => true
    | _ => false
  | .cons a r, sc, es => match es with
    | e :: es => ce N a sc e && !odd e && ceL N r sc es
    | [] => false
  | _, _, _ => false
/-- what is walked: the target, the thing -/
def ceI (N : List Str) : E → Scope → Expr → Expr → Bool
  | .itv a, sc, _, e => ce N a sc e
  | .iext F l, sc, tg, e => match F.mat sc tg e with
    | some es => ceL N l sc es
    | none => false
  | .it1 a, sc, _, e => match e with
    | .Call (.Name r _) [x] [] _ => decide (r = Str.ofString "range") && glB sc r && ce N a sc x && !odd x
    | _ => false
  | .it2 a b, sc, _, e => match e with
    | .Call (.Name r _) [x, y] [] _ => decide (r = Str.ofString "range") && glB sc r && ce N a sc x && !odd x && ce N b sc y && !odd y
    | _ => false
  | .it3 a b c, sc, _, e => match e with
    | .Call (.Name r _) [x, y, z] [] _ => decide (r = Str.ofString "range") && glB sc r && ce N a sc x && !odd x && ce N b sc y && !odd y && ce N c sc z && !odd z
    | _ => false
  | .ien a, sc, tg, e => match tg with
    | .Tuple _ _ _ => match e with
      | .Call (.Name r _) [x] [] _ => decide (r = Str.ofString "enumerate") && glB sc r && ce N a sc x && !odd x
      | _ => false
    | _ => false
  | .izp a b, sc, tg, e => match tg with
    | .Tuple _ _ _ => match e with
      | .Call (.Name r _) [x, y] [] _ => decide (r = Str.ofString "zip") && glB sc r && ce N a sc x && !odd x && ce N b sc y && !odd y
      | _ => false
    | _ => false
  | _, _, _, _ => false
end
/-- which forms are right -/
structure FO where
  e : Form → Prop
  i : FormI → Prop
  s : FormS → Prop
  t : FormT → Prop
  c : FormC → Prop
def Lk (K : PySem.W.Frag) (mg : Str → Option Value) (F : Str → Fn → Prop) (G : FO) : E → Prop
  | .ext f l => G.e f ∧ Lk K mg F G l
  | .iext f l => G.i f ∧ Lk K mg F G l
  | .cons a r => Lk K mg F G a ∧ Lk K mg F G r
  | .g x a => ∃ u v, mg x = some u ∧ RelV v u ∧ ∀ W, RV K W a v
  | .bt n => mg (Str.ofString n) = none
  | .bin _ _ a b => Lk K mg F G a ∧ Lk K mg F G b
  | .neg a => Lk K mg F G a
  | .not a => Lk K mg F G a
  | .cmp _ a b => Lk K mg F G a ∧ Lk K mg F G b
  | .cmx f a b => G.c f ∧ Lk K mg F G a ∧ Lk K mg F G b
  | .chain _ _ a b c => Lk K mg F G a ∧ Lk K mg F G b ∧ Lk K mg F G c
  | .and a b => Lk K mg F G a ∧ Lk K mg F G b
  | .or a b => Lk K mg F G a ∧ Lk K mg F G b
  | .ite a b c => Lk K mg F G a ∧ Lk K mg F G b ∧ Lk K mg F G c
  | .tup a => Lk K mg F G a
  | .lst _ a => Lk K mg F G a
  | .ix a b => Lk K mg F G a ∧ Lk K mg F G b
  | .sl _ a b c => Lk K mg F G a ∧ Lk K mg F G b ∧ Lk K mg F G c
  | .rev _ a => Lk K mg F G a
  | .call x d l => F x d ∧ Lk K mg F G l
  | .prim _ p l => mg (Str.ofString (primN p)) = none ∧ Lk K mg F G l
  | .met _ _ r l => Lk K mg F G r ∧ Lk K mg F G l
  | .comp _ _ _ it e cd => Lk K mg F G it ∧ Lk K mg F G e ∧ Lk K mg F G cd
  | .sset _ a => mg (Str.ofString "sorted") = none ∧ mg (Str.ofString "set") = none ∧ Lk K mg F G a
  | .lrg2 _ a b => mg (Str.ofString "list") = none ∧ mg (Str.ofString "range") = none ∧ Lk K mg F G a ∧ Lk K mg F G b
  | .lrg3 _ a b c => mg (Str.ofString "list") = none ∧ mg (Str.ofString "range") = none ∧ Lk K mg F G a ∧ Lk K mg F G b ∧ Lk K mg F G c
  | .lrg _ a => mg (Str.ofString "list") = none ∧ mg (Str.ofString "range") = none ∧ Lk K mg F G a
  | .itv a => Lk K mg F G a
  | .it1 a => mg (Str.ofString "range") = none ∧ Lk K mg F G a
  | .it2 a b => mg (Str.ofString "range") = none ∧ Lk K mg F G a ∧ Lk K mg F G b
  | .it3 a b c => mg (Str.ofString "range") = none ∧ Lk K mg F G a ∧ Lk K mg F G b ∧ Lk K mg F G c
  | .ien a => mg (Str.ofString "enumerate") = none ∧ Lk K mg F G a
  | .izp a b => mg (Str.ofString "zip") = none ∧ Lk K mg F G a ∧ Lk K mg F G b
  | .ienz a b => mg (Str.ofString "enumerate") = none ∧ mg (Str.ofString "zip") = none ∧ Lk K mg F G a ∧ Lk K mg F G b
  | _ => True

/-- a def's promise: it does what d does -/
def spOf (K : PySem.W.Frag) (d : Fn) : Sp := fun vs H Q _ => ∃ W S as, W.H = H ∧ Rep K W S ∧ RVs K W as vs ∧ PostO K W (d as S) Q
/-- the def that stands at a name keeps it -/
def Fx (P : Program) (w : World) (K : PySem.W.Frag) (mg : Str → Option Value) (base : Heap) (k : Nat) (x : Str) (d : Fn) : Prop :=
  ∃ f fd ps, mg x = some (.ref f) ∧ PySem.W.keepIn K (.ref f) = true ∧ Binds K fd ps [] ∧ (∀ as S r S', d as S = .ok r S' → as.length = ps.length) ∧ FnOk P w K mg base CX0 k f fd ps (spOf K d)
/-- where one stands -/
structure GE (P : Program) (w : World) (K : PySem.W.Frag) (mg : Str → Option Value) (base : Heap) (k : Nat) (N : List Str) (X : Cx) (sc : Scope) : Prop where
  hP : X.prog = P
  hw : X.w = w
  hK : X.K = K
  hmg : X.mg = mg
  hbase : X.base = base
  hN : X.N = N
  nd : N.Nodup
  calm : X.calm = true
  room : Room k X.A
  scope : X.env.scope = sc
/-- at a def's body: nothing is let out, every cell is its own -/
structure GS (P : Program) (w : World) (K : PySem.W.Frag) (mg : Str → Option Value) (base : Heap) (k : Nat) (N : List Str) (Wx : WX) (X : Cx) (sc : Scope) : Prop extends GE P w K mg base k N X sc where
  fn : X.fn = fun _ => true
  po : PassesOwn (model X.prog X.w) X.A X.env X.xe
  tk : L2N.Takes X Wx
  hs : X.stack = X.env :: X.outer
  hf : X.env.frame = some X.env.locals
/-- expressions, one by one -/
inductive PEs (X : Cx) : List Expr → List Dn → Prop
  | nil : PEs X [] []
  | cons {e : Expr} {es : List Expr} {m : Dn} {ms : List Dn} : PE X e (T X.K m) → odd e = false → PEs X es ms → PEs X (e :: es) (m :: ms)
/-- a form of an expression does what it says -/
def FormOk (P : Program) (w : World) (K : PySem.W.Frag) (mg : Str → Option Value) (base : Heap) (k : Nat) (F : Form) : Prop :=
  ∀ N X sc e es ms, GE P w K mg base k N X sc → F.mat sc e = some es → PEs X es ms → PE X e (T K (F.sem ms))
def FormSOk (P : Program) (w : World) (K : PySem.W.Frag) (mg : Str → Option Value) (base : Heap) (k : Nat) (F : FormS) : Prop :=
  ∀ N X sc Wx s es ms, GS P w K mg base k N Wx X sc → F.mat N sc s = some es → PEs X es ms → PS X s (TSt K Wx (F.sem ms))
def FormCOk (P : Program) (w : World) (K : PySem.W.Frag) (mg : Str → Option Value) (base : Heap) (k : Nat) (F : FormC) : Prop :=
  (∀ N X sc, GE P w K mg base k N X sc → OpR X (compareOp (opC F.o)) (R2D K F.sem)) ∧ ∀ x y S r S', F.sem x y S = .ok r S' → ∃ b, r = .bl b
def FormTOk (P : Program) (w : World) (K : PySem.W.Frag) (mg : Str → Option Value) (base : Heap) (k : Nat) (F : FormT) : Prop :=
  ∀ N X sc Wx s ss mb, GS P w K mg base k N Wx X sc → F.mat N sc s = some ss → (∀ X' Wx', GS P w K mg base k N Wx' X' sc → PSs X' ss (TSt K Wx' mb)) → PS X s (TSt K Wx (F.sem mb))
section
variable {P : Program} {w : World} {K : PySem.W.Frag} {mg : Str → Option Value} {base : Heap} {k : Nat} {N : List Str} {X : Cx} {sc : Scope}
theorem GE.hu (g : GE P w K mg base k N X sc) : X.A.units + 64 < cLine := g.room.units
theorem GE.hu80 (g : GE P w K mg base k N X sc) : X.A.units + 80 < cLine := by have := g.room.un; omega
theorem GE.blk (g : GE P w K mg base k N X sc) (s : Shared) (H : Hp) (scope : Scope) (C : Addr) (cl : List (Str × Addr)) (fp : List Addr) :
    GE P w K mg base k N (X.blk s H scope (compEnvC scope cl C X.env) fp) (relS scope sc) :=
  ⟨g.hP, g.hw, g.hK, g.hmg, g.hbase, g.hN, g.nd, g.calm, g.room, by rw [← g.scope]; rfl⟩
theorem GE.gl (g : GE P w K mg base k N X sc) {x : Str} (h : glB sc x = true) : Gl X x ∧ (x == ("__debug__" : Str)) = false := by
  unfold glB at h
  rw [Bool.and_eq_true] at h
  refine ⟨?_, by simpa using h.2⟩
  have h1 := h.1
  split at h1
  · rename_i e
    show X.env.scope.names.lookup x = _
    rw [g.scope]; exact e
  · cases h1
theorem GE.vis (g : GE P w K mg base k N X sc) {x : Str} (h : visB sc x = true) : Vis X.env.scope x := by
  rw [g.scope]
  unfold visB at h
  split at h
  · exact .inl (by assumption)
  · exact .inr (.inl (by assumption))
  · exact .inr (.inr (by assumption))
  · cases h
theorem GE.loc (g : GE P w K mg base k N X sc) {B : Str → Bool} {x : Str} (h : locB sc B x = true) : Loc X.env.scope x ∧ (B x = true ∨ X.env.scope.names.lookup x = some .local) := by
  rw [g.scope]
  unfold locB at h
  split at h
  · exact ⟨.inl (by assumption), .inr (by assumption)⟩
  · exact ⟨.inr (by assumption), .inl h⟩
  · cases h
end
theorem odd_ix {e : Expr} (h : odd e = false) : PlainIx e := by
  intro o i
  cases e <;> first | rfl | cases h
theorem odd_star {e : Expr} {es : List Expr} {env : Env} (h : odd e = false) : starEach (e :: es) env = (false, eval e env) :: starEach es env := by
  cases e <;> first | rfl | cases h
theorem odd_fold {e : Expr} {env : Env} (h : odd e = false) : ∀ x, foldedSetIterable e env x = pure x := by
  intro x
  cases e <;> first | rfl | cases h
theorem odd_marks {e : Expr} (h : odd e = false) (op : CmpOp) : behindInMarks op e = false := by
  cases e <;> first | rfl | cases h
theorem star_plain {N : List Str} {sc : Scope} {env : Env} : ∀ {l : E} {es : List Expr}, ceL N l sc es = true → (starEach es env).any (·.1) = false
  | .nil, [], _ => rfl
  | .cons a r, e :: es, h => by
    simp only [ceL, Bool.and_eq_true, Bool.not_eq_true'] at h
    rw [odd_star h.1.2]
    show (false || (starEach es env).any (·.1)) = false
    rw [star_plain (l := r) h.2]; rfl
  | .nil, _ :: _, h => by simp [ceL] at h
  | .cons _ _, [], h => by simp [ceL] at h
theorem boot_prim (p : Prim) : bootBuiltins (Str.ofString (primN p)) = some (primV p) := by cases p <;> decide +kernel
theorem primN_ne (p : Prim) : Str.ofString (primN p) ≠ ("__name__" : Str) := by cases p <;> decide +kernel
theorem boot_ty {n : String} (h : tyB n = true) : bootBuiltins (Str.ofString n) = some (.type n) ∧ Str.ofString n ≠ ("__name__" : Str) := by
  have hn : n = "int" ∨ n = "bool" ∨ n = "str" ∨ n = "tuple" ∨ n = "list" := by simpa [tyB, or_assoc] using h
  rcases hn with rfl | rfl | rfl | rfl | rfl <;> exact ⟨by decide +kernel, by decide +kernel⟩
end VI

set_option maxRecDepth 100000
set_option maxHeartbeats 1000000
/-! VI6: .. by the form of an expression. -/
namespace VI
open PySem PySem.Spec PyProof.Rows L2

section
variable {K : PySem.W.Frag} {W : Wd} {σ : L2.St} {H : Hp} {Q : VK} {ma mb mc : Ev → Store → Out AV}
theorem T_op2 {f : AV → AV → Store → Out AV} (h : T K (fun ρ S => (ma ρ S).bd fun x S1 => (mb ρ S1).bd fun y S2 => f x y S2) σ H Q) : tOp (R2D K f) (T K ma) (T K mb) σ H Q := by
  obtain ⟨W, ρ, S, s, P⟩ := h
  exact T.bd s P fun a S1 W1 x L1 s1 ra P1 => T.bd s1 P1 fun b S2 W2 y L2 s2 rb P2 => ⟨W2, S2, a, b, rfl, s2.rep, ra.mono L2, rb, P2⟩
theorem tru_of {W : Wd} {S : Store} {a : AV} {x : V} {b : Bool} (R : Rep K W S) (ra : RV K W a x) (e : truth S a = some b) : TruV K x W.H b := by
  cases a with
  | non => cases ra; exact (Option.some.inj e).symm
  | bl c => cases ra; exact (Option.some.inj e).symm
  | int i =>
    cases ra
    show b = (i != 0)
    rw [← Option.some.inj e]
    by_cases h : i = 0 <;> simp [h]
  | str z =>
    cases ra
    simp only [truth] at e
    split at e
    · rename_i hz
      refine ⟨hz, ?_⟩
      rw [← Option.some.inj e]
      by_cases h : z.length = 0 <;> simp [h]
    · cases e
  | tup l =>
    obtain ⟨p, xs, rfl, h, r⟩ := ra.itT
    have := Option.some.inj e
    subst this
    refine .inr (.inl ⟨xs, h, ?_⟩)
    cases r <;> rfl
  | lst l =>
    obtain ⟨p, xs, rfl, h, r⟩ := lst_it R ra rfl
    have := Option.some.inj e
    subst this
    refine .inl ⟨xs, SqL.of h, ?_⟩
    cases r <;> rfl
  | scr l =>
    obtain ⟨p, rfl, h⟩ := scr_it ra
    have := Option.some.inj e
    subst this
    refine .inl ⟨_, h, ?_⟩
    cases l <;> rfl
  | loc i =>
    simp only [truth] at e
    cases e1 : S[i]? with
    | none => simp [e1] at e
    | some o =>
      cases o with
      | lst l =>
        simp only [e1] at e
        have := Option.some.inj e
        subst this
        obtain ⟨p, xs, rfl, h, r⟩ := lst_it R ra (l := l) (by simp [lstOf, e1])
        refine .inl ⟨xs, SqL.of h, ?_⟩
        cases r <;> rfl
      | dct lk l =>
        cases lk with
        | true => simp [e1] at e
        | false =>
          simp only [e1] at e
          have := Option.some.inj e
          subst this
          obtain ⟨xs, h, r⟩ := R.obj i _ e1
          cases ra
          refine .inr (.inr ⟨xs, h, ?_⟩)
          have hl := r.len
          cases l <;> cases xs <;> first | rfl | (simp at hl; done)
      | _ => simp [e1] at e
  | _ => cases e
theorem Post.w {r : AV} {S' : Store} {Q Q' : VK} (h : Post K W r S' Q) (f : ∀ x H, Q x H → Q' x H) : Post K W r S' Q' := fun W' x L R rv => f _ _ (h W' x L R rv)
end

section
variable {X : Cx} {a b c : Expr} {pos : Pos} {ma mb mc : Ev → Store → Out AV}
theorem pe_binV {m : Bool} {o : BOp} (ho : bOk o = true) (ha : PE X a (T X.K ma)) (hb : PE X b (T X.K mb)) : PE X (.BinOp a (opB o) b pos) (T X.K fun ρ S => (ma ρ S).bd fun x S1 => (mb ρ S1).bd fun y S2 => binD m o x y S2) :=
  (pe_op (op_binV o ho) ha hb).w fun _ _ _ h => T_op2 h
theorem pe_negV (ha : PE X a (T X.K ma)) : PE X (.UnaryOp .USub a pos) (T X.K fun ρ S => (ma ρ S).bd fun x S1 => match x with
    | .int i => .ok (.int (-i)) S1
    | _ => .no) := by
  refine (pe_un un_neg ha).w fun σ H Q h => ?_
  obtain ⟨W, ρ, S, s, P⟩ := h
  refine T.bd s P fun x S1 W1 v L1 s1 ra P1 => ?_
  cases x with
  | int i => cases ra; exact ⟨i, rfl, P1.val s1.rep (.int _)⟩
  | _ => exact P1.no.elim
theorem pe_notV (ha : PE X a (T X.K ma)) : PE X (.UnaryOp .Not a pos) (T X.K fun ρ S => (ma ρ S).bd fun x S1 => outB ((truth S1 x).map (!·)) S1) := by
  refine (pe_notT ha).w fun σ H Q h => ?_
  obtain ⟨W, ρ, S, s, P⟩ := h
  refine T.bd s P fun x S1 W1 v L1 s1 ra P1 => ?_
  cases e : truth S1 x with
  | none => rw [e] at P1; exact P1.no.elim
  | some k => rw [e] at P1; exact ⟨k, tru_of s1.rep ra e, P1.val s1.rep (.bl _)⟩
theorem pe_cmpV (hu : X.A.units + 64 < cLine) {o : COp} (ha : PE X a (T X.K ma)) (hb : PE X b (T X.K mb)) (hm : behindInMarks (opC o) b = false) :
    PE X (.Compare a [opC o] [b] pos) (T X.K fun ρ S => (ma ρ S).bd fun x S1 => (mb ρ S1).bd fun y S2 => outB (cmpD o x y S2) S2) :=
  (pe_cmpR (op_cmpV hu o) ha hb hm).w fun _ _ _ h => T_op2 h
theorem pe_ixV (hu : X.A.units + 1 < cLine) (ha : PE X a (T X.K ma)) (hb : PE X b (T X.K mb)) (hs : PlainIx b) : PE X (.Subscript a b pos) (T X.K fun ρ S => (ma ρ S).bd fun x S1 => (mb ρ S1).bd fun y S2 => ixD x y S2) :=
  (pe_ix (op_ixV hu) ha hb hs).w fun _ _ _ h => T_op2 h
theorem PostB.of {K : PySem.W.Frag} {W : Wd} {b : Bool} {S : Store} {Q : Bool → Hp → Prop} (h : PostB K W (.ok (.bl b) S) Q) (R : Rep K W S) : Q b W.H := by
  obtain ⟨b', S', e, k⟩ := h
  cases e
  exact k W (Le.refl W) R
theorem PostB.no {K : PySem.W.Frag} {W : Wd} {Q : Bool → Hp → Prop} (h : PostB K W .no Q) : False := by
  obtain ⟨b', S', e, k⟩ := h
  cases e
/-- a test as a value's truth -/
theorem TB_tru {K : PySem.W.Frag} {σ : L2.St} {H : Hp} {Q : Bool → Hp → Prop} {m : Ev → Store → Out AV} (h : TB K (fun ρ S => truD (m ρ S)) σ H Q) : T K m σ H fun x H' => ∃ k, TruV K x H' k ∧ Q k H' := by
  obtain ⟨W, ρ, S, s, b, S', e, P⟩ := h
  obtain ⟨a, S1, e1, e2⟩ := Out.bd_eq e
  cases e3 : truth S1 a with
  | none => rw [e3] at e2; cases e2
  | some c =>
    rw [e3] at e2
    cases e2
    exact ⟨W, ρ, S, s, a, _, e1, fun W1 x L1 R1 ra => ⟨b, tru_of R1 ra e3, P W1 L1 R1⟩⟩
/-- .. of what is True or False anyhow -/
theorem TB_bool {K : PySem.W.Frag} {σ : L2.St} {H : Hp} {Q : Bool → Hp → Prop} {m : Ev → Store → Out AV} (hb : ∀ ρ S a S', m ρ S = .ok a S' → ∃ b, a = .bl b) (h : TB K (fun ρ S => truD (m ρ S)) σ H Q) : T K m σ H fun x H' => ∃ k, x = .bl k ∧ Q k H' := by
  obtain ⟨W, ρ, S, s, b, S', e, P⟩ := h
  obtain ⟨a, S1, e1, e2⟩ := Out.bd_eq e
  obtain ⟨c, rfl⟩ := hb _ _ _ _ e1
  cases e2
  exact ⟨W, ρ, S, s, .bl b, _, e1, fun W1 x L1 R1 ra => by cases ra; exact ⟨b, rfl, P W1 L1 R1⟩⟩
theorem outB_bool {o : Option Bool} {S S' : Store} {a : AV} (h : outB o S = .ok a S') : ∃ b, a = .bl b := by
  cases o with
  | none => cases h
  | some b => cases h; exact ⟨b, rfl⟩
theorem pt_cmpV (hu : X.A.units + 64 < cLine) {o : COp} (ha : PE X a (T X.K ma)) (hb : PE X b (T X.K mb)) (hm : behindInMarks (opC o) b = false) :
    PT X (.Compare a [opC o] [b] pos) (TB X.K fun ρ S => truD ((ma ρ S).bd fun x S1 => (mb ρ S1).bd fun y S2 => outB (cmpD o x y S2) S2)) := by
  refine (pt_cmpR (op_cmpV hu o) ha hb hm).w fun σ H Q h => ?_
  refine T_op2 (TB_bool (fun ρ S r S' e => ?_) h)
  obtain ⟨_, _, _, e⟩ := Out.bd_eq e
  obtain ⟨_, _, _, e⟩ := Out.bd_eq e
  exact outB_bool e
theorem pe_cmxV {F : FormC} (hf : OpR X (compareOp (opC F.o)) (R2D X.K F.sem)) (ha : PE X a (T X.K ma)) (hb : PE X b (T X.K mb)) (hm : behindInMarks (opC F.o) b = false) :
    PE X (.Compare a [opC F.o] [b] pos) (T X.K fun ρ S => (ma ρ S).bd fun x S1 => (mb ρ S1).bd fun y S2 => F.sem x y S2) :=
  (pe_cmpR hf ha hb hm).w fun _ _ _ h => T_op2 h
theorem pt_cmxV {F : FormC} (hf : OpR X (compareOp (opC F.o)) (R2D X.K F.sem)) (hb2 : ∀ x y S r S', F.sem x y S = .ok r S' → ∃ b, r = .bl b) (ha : PE X a (T X.K ma)) (hb : PE X b (T X.K mb)) (hm : behindInMarks (opC F.o) b = false) :
    PT X (.Compare a [opC F.o] [b] pos) (TB X.K fun ρ S => truD ((ma ρ S).bd fun x S1 => (mb ρ S1).bd fun y S2 => F.sem x y S2)) := by
  refine (pt_cmpR hf ha hb hm).w fun σ H Q h => ?_
  refine T_op2 (TB_bool (fun ρ S r S' e => ?_) h)
  obtain ⟨x, S1, -, e⟩ := Out.bd_eq e
  obtain ⟨y, S2, -, e⟩ := Out.bd_eq e
  exact hb2 _ _ _ _ _ e
theorem T_chain {K : PySem.W.Frag} {σ : L2.St} {H : Hp} {Q : VK} {o p : COp} (h : T K (fun ρ S => (ma ρ S).bd fun x S1 => (mb ρ S1).bd fun y S2 => match cmpD o x y S2 with
      | some true => (mc ρ S2).bd fun z S3 => outB (cmpD p y z S3) S3
      | some false => .ok (.bl false) S2
      | none => .no) σ H Q) : tChain (R2D K fun a b S => outB (cmpD o a b S) S) (R2D K fun a b S => outB (cmpD p a b S) S) (T K ma) (T K mb) (T K mc) σ H Q := by
  obtain ⟨W, ρ, S, s, P⟩ := h
  refine T.bd s P fun x S1 W1 v L1 s1 ra P1 => T.bd s1 P1 fun y S2 W2 u L2 s2 rb P2 => ?_
  refine ⟨W2, S2, x, y, rfl, s2.rep, ra.mono L2, rb, ?_⟩
  cases e : cmpD o x y S2 with
  | none => simp only [e] at P2; exact P2.no.elim
  | some t =>
    refine ⟨.bl t, S2, by simp only [e]; rfl, fun W3 z L3 R3 rz => ?_⟩
    cases rz
    refine ⟨t, rfl, ?_⟩
    cases t with
    | false =>
      simp only [e] at P2
      rw [if_neg (by decide)]
      exact (P2.mono L3).val R3 (.bl _)
    | true =>
      simp only [e] at P2
      rw [if_pos rfl]
      exact T.bd (s2.next L3 R3) (P2.mono L3) fun z S4 W4 w L4 s4 rc P4 => ⟨W4, S4, y, z, rfl, s4.rep, (rb.mono L3).mono L4, rc, P4⟩
theorem chain_bool {o p : COp} {ρ : Ev} {S S' : Store} {r : AV} (e : ((ma ρ S).bd fun x S1 => (mb ρ S1).bd fun y S2 => match cmpD o x y S2 with
      | some true => (mc ρ S2).bd fun z S3 => outB (cmpD p y z S3) S3
      | some false => .ok (.bl false) S2
      | none => .no) = .ok r S') : ∃ b, r = .bl b := by
  obtain ⟨_, _, _, e⟩ := Out.bd_eq e
  obtain ⟨_, _, _, e⟩ := Out.bd_eq e
  split at e
  · obtain ⟨_, _, _, e⟩ := Out.bd_eq e
    exact outB_bool e
  · cases e; exact ⟨_, rfl⟩
  · cases e
theorem lastMarks2 {op op' : CmpOp} {b c : Expr} (h : behindInMarks op' c = false) : lastMarks [op, op'] [b, c] = false := by
  show lastMarks [op'] [c] = false
  exact h
theorem pe_chainV (hu : X.A.units + 64 < cLine) {o p : COp} (ha : PE X a (T X.K ma)) (hb : PE X b (T X.K mb)) (hc : PE X c (T X.K mc)) (hm : behindInMarks (opC p) c = false) :
    PE X (.Compare a [opC o, opC p] [b, c] pos) (T X.K fun ρ S => (ma ρ S).bd fun x S1 => (mb ρ S1).bd fun y S2 => match cmpD o x y S2 with
      | some true => (mc ρ S2).bd fun z S3 => outB (cmpD p y z S3) S3
      | some false => .ok (.bl false) S2
      | none => .no) := (pe_chain (op_cmpV hu o) (op_cmpV hu p) ha hb hc (lastMarks2 hm)).w fun _ _ _ h => T_chain h
theorem pt_chainV (hu : X.A.units + 64 < cLine) {o p : COp} (ha : PE X a (T X.K ma)) (hb : PE X b (T X.K mb)) (hc : PE X c (T X.K mc)) (hm : behindInMarks (opC p) c = false) :
    PT X (.Compare a [opC o, opC p] [b, c] pos) (TB X.K fun ρ S => truD ((ma ρ S).bd fun x S1 => (mb ρ S1).bd fun y S2 => match cmpD o x y S2 with
      | some true => (mc ρ S2).bd fun z S3 => outB (cmpD p y z S3) S3
      | some false => .ok (.bl false) S2
      | none => .no)) := (pt_chain (op_cmpV hu o) (op_cmpV hu p) ha hb hc (lastMarks2 hm)).w fun _ _ _ h => T_chain (TB_bool (fun _ _ _ _ e => chain_bool e) h)
def andD (ma mb : Ev → Store → Out AV) : Ev → Store → Out AV := fun ρ S => (ma ρ S).bd fun x S1 => match truth S1 x with
    | some true => mb ρ S1
    | some false => .ok x S1
    | none => .no
def orD (ma mb : Ev → Store → Out AV) : Ev → Store → Out AV := fun ρ S => (ma ρ S).bd fun x S1 => match truth S1 x with
    | some true => .ok x S1
    | some false => mb ρ S1
    | none => .no
theorem T_and {K : PySem.W.Frag} {σ : L2.St} {H : Hp} {Q : VK} (h : T K (andD ma mb) σ H Q) : tAndT K (T K ma) (T K mb) σ H Q := by
  obtain ⟨W, ρ, S, s, P⟩ := h
  refine T.bd s P fun x S1 W1 v L1 s1 ra P1 => ?_
  cases e : truth S1 x with
  | none => simp only [e] at P1; exact P1.no.elim
  | some k =>
    refine ⟨k, tru_of s1.rep ra e, ?_⟩
    cases k with
    | true => simp only [e] at P1; rw [if_pos rfl]; exact ⟨W1, ρ, S1, s1, P1⟩
    | false => simp only [e] at P1; rw [if_neg (by decide)]; exact P1.val s1.rep ra
theorem T_or {K : PySem.W.Frag} {σ : L2.St} {H : Hp} {Q : VK} (h : T K (orD ma mb) σ H Q) : tOrT K (T K ma) (T K mb) σ H Q := by
  obtain ⟨W, ρ, S, s, P⟩ := h
  refine T.bd s P fun x S1 W1 v L1 s1 ra P1 => ?_
  cases e : truth S1 x with
  | none => simp only [e] at P1; exact P1.no.elim
  | some k =>
    refine ⟨k, tru_of s1.rep ra e, ?_⟩
    cases k with
    | false => simp only [e] at P1; rw [if_neg (by decide)]; exact ⟨W1, ρ, S1, s1, P1⟩
    | true => simp only [e] at P1; rw [if_pos rfl]; exact P1.val s1.rep ra
/-- a test, then what hangs on it -/
theorem TB_then {K : PySem.W.Frag} {W : Wd} {ρ : Ev} {S : Store} {σ : L2.St} {H : Hp} {Q' : Bool → Hp → Prop} {m : Ev → Store → Out AV} (s : Stt K W ρ S σ H) {a : AV} {S1 : Store} {b : Bool} (e : m ρ S = .ok a S1) (e' : truth S1 a = some b)
    (k : ∀ W1, Le W W1 → Stt K W1 ρ S1 σ W1.H → Q' b W1.H) : TB K (fun ρ S => truD (m ρ S)) σ H Q' := by
  refine ⟨W, ρ, S, s, b, S1, ?_, fun W1 L1 R1 => k W1 L1 (s.next L1 R1)⟩
  simp only [truD, e, bd_ok, e']
  rfl
theorem tru_and {K : PySem.W.Frag} {σ : L2.St} {H : Hp} {Q : Bool → Hp → Prop} (h : TB K (fun ρ S => truD (andD ma mb ρ S)) σ H Q) : tAnd (TB K fun ρ S => truD (ma ρ S)) (TB K fun ρ S => truD (mb ρ S)) σ H Q := by
  obtain ⟨W, ρ, S, s, b, S', e, P⟩ := h
  obtain ⟨r, S2, e, er⟩ := Out.bd_eq e
  obtain ⟨a, S1, e1, e2⟩ := Out.bd_eq e
  cases e3 : truth S1 a with
  | none => simp only [e3] at e2; cases e2
  | some k =>
    refine TB_then s e1 e3 fun W1 L1 s1 => ?_
    cases k with
    | true =>
      simp only [e3] at e2
      rw [if_pos rfl]
      exact ⟨W1, ρ, S1, s1, b, S', by simp only [e2, truD, bd_ok]; exact er, fun W2 L2 R2 => P W2 (L1.trans L2) R2⟩
    | false =>
      simp only [e3] at e2
      rw [if_neg (by decide)]
      cases e2
      rw [e3] at er
      cases er
      exact P W1 L1 s1.rep
theorem tru_or {K : PySem.W.Frag} {σ : L2.St} {H : Hp} {Q : Bool → Hp → Prop} (h : TB K (fun ρ S => truD (orD ma mb ρ S)) σ H Q) : tOr (TB K fun ρ S => truD (ma ρ S)) (TB K fun ρ S => truD (mb ρ S)) σ H Q := by
  obtain ⟨W, ρ, S, s, b, S', e, P⟩ := h
  obtain ⟨r, S2, e, er⟩ := Out.bd_eq e
  obtain ⟨a, S1, e1, e2⟩ := Out.bd_eq e
  cases e3 : truth S1 a with
  | none => simp only [e3] at e2; cases e2
  | some k =>
    refine TB_then s e1 e3 fun W1 L1 s1 => ?_
    cases k with
    | false =>
      simp only [e3] at e2
      rw [if_neg (by decide)]
      exact ⟨W1, ρ, S1, s1, b, S', by simp only [e2, truD, bd_ok]; exact er, fun W2 L2 R2 => P W2 (L1.trans L2) R2⟩
    | true =>
      simp only [e3] at e2
      rw [if_pos rfl]
      cases e2
      rw [e3] at er
      cases er
      exact P W1 L1 s1.rep
theorem tru_not {K : PySem.W.Frag} {σ : L2.St} {H : Hp} {Q : Bool → Hp → Prop} (h : TB K (fun ρ S => truD ((ma ρ S).bd fun x S1 => outB ((truth S1 x).map (!·)) S1)) σ H Q) : tNot (TB K fun ρ S => truD (ma ρ S)) σ H Q := by
  obtain ⟨W, ρ, S, s, b, S', e, P⟩ := h
  obtain ⟨r, S2, e, er⟩ := Out.bd_eq e
  obtain ⟨a, S1, e1, e2⟩ := Out.bd_eq e
  cases e3 : truth S1 a with
  | none => simp only [e3] at e2; cases e2
  | some k =>
    simp only [e3] at e2
    cases e2
    cases er
    exact TB_then s e1 e3 fun W1 L1 s1 => P W1 L1 s1.rep
theorem T_ite {K : PySem.W.Frag} {σ : L2.St} {H : Hp} {Q : VK} (h : T K (fun ρ S => (mc ρ S).bd fun x S1 => match truth S1 x with
    | some true => ma ρ S1
    | some false => mb ρ S1
    | none => .no) σ H Q) : tIf (TB K fun ρ S => truD (mc ρ S)) (T K ma) (T K mb) σ H Q := by
  obtain ⟨W, ρ, S, s, r, S', e, P⟩ := h
  obtain ⟨a, S1, e1, e2⟩ := Out.bd_eq e
  cases e3 : truth S1 a with
  | none => simp only [e3] at e2; cases e2
  | some k =>
    refine TB_then s e1 e3 fun W1 L1 s1 => ?_
    cases k with
    | true => simp only [e3] at e2; rw [if_pos rfl]; exact ⟨W1, ρ, S1, s1, r, S', e2, P.mono L1⟩
    | false => simp only [e3] at e2; rw [if_neg (by decide)]; exact ⟨W1, ρ, S1, s1, r, S', e2, P.mono L1⟩

/-! displays, slices, calls -/
variable {ml : Ev → Store → Out (List AV)} {es : List Expr}
theorem pe_tupV {kk : Nat} (h : PA X es (TL X.K ml)) : PE X (.Tuple es kk pos) (T X.K fun ρ S => (ml ρ S).bd fun xs S1 => if xs.length ≤ sizeLine then .ok (.tup xs) S1 else .no) := by
  refine (pe_tup h).w fun σ H Q h => ?_
  obtain ⟨W, ρ, S, s, P⟩ := h
  refine TL.bd s P fun xs S1 W1 vs L1 s1 r P1 => ?_
  obtain ⟨hz, P1⟩ := P1.ite
  exact ⟨by rw [← r.len]; exact hz, fun p hp => P1.tup s1.rep r hp⟩
theorem pe_lstV {m : Bool} (h : PA X es (TL X.K ml)) : PE X (.List es pos) (T X.K fun ρ S => (ml ρ S).bd fun xs S1 => if xs.length ≤ sizeLine then mkL m xs S1 else .no) := by
  refine (pe_lst h).w fun σ H Q h => ?_
  obtain ⟨W, ρ, S, s, P⟩ := h
  refine TL.bd s P fun xs S1 W1 vs L1 s1 r P1 => ?_
  obtain ⟨hz, P1⟩ := P1.ite
  exact ⟨by rw [← r.len]; exact hz, fun p hp => P1.mk s1.rep r hp⟩
theorem pa_nilV : PA X [] (TL X.K fun _ S => .ok [] S) := by
  refine pa_nil.w fun σ H Q h => ?_
  obtain ⟨W, ρ, S, s, r, S', e, P⟩ := h
  cases e
  have := P W [] (Le.refl W) s.rep .nil
  rw [s.hH] at this
  exact this
theorem pa_consV {e : Expr} (ha : PE X e (T X.K ma)) (hl : PA X es (TL X.K ml)) (hs : odd e = false) : PA X (e :: es) (TL X.K fun ρ S => (ma ρ S).bd fun x S1 => (ml ρ S1).bd fun xs S2 => .ok (x :: xs) S2) := by
  refine (pa_cons ha hl (odd_star hs)).w fun σ H Q h => ?_
  obtain ⟨W, ρ, S, s, r, S', e, P⟩ := h
  obtain ⟨a, S1, e1, e2⟩ := Out.bd_eq e
  obtain ⟨l, S2, e2, e3⟩ := Out.bd_eq e2
  cases e3
  exact ⟨W, ρ, S, s, a, S1, e1, fun W1 x L1 R1 ra => ⟨W1, ρ, S1, s.next L1 R1, l, _, e2, fun W2 xs L2 R2 rl => P W2 (x :: xs) (L1.trans L2) R2 (.cons (ra.mono L2) rl)⟩⟩
/-- a part of a slice -/
def TOd (K : PySem.W.Frag) (m : Ev → Store → Out AV) : TO := fun σ H Q => ∃ W ρ S, Stt K W ρ S σ H ∧ ∃ a S' o, m ρ S = .ok a S' ∧ partD a = some o ∧ ∀ W', Le W W' → Rep K W' S' → Q o W'.H
theorem po_noneV : PO X none (TOd X.K fun _ S => .ok .non S) := by
  refine po_none.w fun σ H Q h => ?_
  obtain ⟨W, ρ, S, s, a, S', o, e, e2, P⟩ := h
  cases e
  cases e2
  have := P W (Le.refl W) s.rep
  rw [s.hH] at this
  exact this
theorem po_someV {e : Expr} (ha : PE X e (T X.K ma)) : PO X (some e) (TOd X.K fun ρ S => prt false (ma ρ S)) := by
  refine (po_some ha).w fun σ H Q h => ?_
  obtain ⟨W, ρ, S, s, a, S', o, e, e2, P⟩ := h
  obtain ⟨b, S1, e1, e3⟩ := Out.bd_eq e
  cases b with
  | int i =>
    cases e3
    cases e2
    exact ⟨W, ρ, S, s, .int i, S', e1, fun W1 x L1 R1 ra => by cases ra; exact ⟨i, rfl, P W1 L1 R1⟩⟩
  | _ => cases e3
theorem pe_slV {m : Bool} {lo hi : Option Expr} {p2 : Pos} {ml mh : Ev → Store → Out AV} (ha : PE X a (T X.K ma)) (hl : PO X lo (TOd X.K ml)) (hh : PO X hi (TOd X.K mh)) :
    PE X (.Subscript a (.Slice lo hi none p2) pos) (T X.K fun ρ S => (ma ρ S).bd fun x S1 => (ml ρ S1).bd fun y S2 => (mh ρ S2).bd fun z S3 => slD m x y z S3) := by
  refine (pe_slice (sl_V (m := m)) ha hl hh).w fun σ H Q h => ?_
  obtain ⟨W, ρ, S, s, P⟩ := h
  refine T.bd s P fun x S1 W1 v L1 s1 ra P1 => ?_
  obtain ⟨r, S', e, P1⟩ := P1
  obtain ⟨y, S2, e1, e⟩ := Out.bd_eq e
  obtain ⟨z, S3, e2, e⟩ := Out.bd_eq e
  have e : optD (partD y) (fun lo => optD (partD z) fun hi => cutD m x lo hi S3) = .ok r S' := e
  cases ey : partD y with
  | none => rw [ey] at e; cases e
  | some lo =>
    cases ez : partD z with
    | none => rw [ey, ez] at e; cases e
    | some hi =>
      rw [ey, ez] at e
      exact ⟨W1, ρ, S1, s1, y, S2, lo, e1, ey, fun W2 L2 R2 => ⟨W2, ρ, S2, s1.next L2 R2, z, S3, hi, e2, ez, fun W3 L3 R3 => ⟨W3, S3, x, rfl, R3, (ra.mono L2).mono L3, r, S', e, (P1.mono L2).mono L3⟩⟩⟩
theorem pe_revV {m : Bool} {kk : Nat} {p1 p2 p3 : Pos} (ha : PE X a (T X.K ma)) : PE X (.Subscript a (.Slice none none (some (.UnaryOp .USub (.Constant (.int 1) kk p1) p2)) p3) pos) (T X.K fun ρ S => (ma ρ S).bd fun x S1 => revD m x S1) := by
  refine (pe_revL ha).w fun σ H Q h => ?_
  obtain ⟨W, ρ, S, s, P⟩ := h
  refine T.bd s P fun x S1 W1 v L1 s1 ra P1 => ?_
  obtain ⟨l, e, P1⟩ := P1.opt
  obtain ⟨p, xs, rfl, h1, r1⟩ := lst_it s1.rep ra e
  exact ⟨p, xs, rfl, SqL.of h1, fun q hq => P1.mk s1.rep r1.reverse hq⟩
theorem pe_lrgV {m : Bool} {p1 p2 pos' : Pos} {l r : Str} (hl : l = Str.ofString "list") (hr : r = Str.ofString "range") (hc : X.calm = true) (g1 : Gl X l) (m1 : X.mg (Str.ofString "list") = none) (g2 : Gl X r) (m2 : X.mg (Str.ofString "range") = none) (ha : PE X a (T X.K ma)) (ho : odd a = false) :
    PE X (.Call (.Name l p1) [.Call (.Name r p2) [a] [] pos'] [] pos) (T X.K fun ρ S => (ma ρ S).bd fun x S1 => match x with
    | .int j => if -(2 ^ 60) ≤ j ∧ j ≤ 10000000 then mkL m ((List.range j.toNat).map fun (k : Nat) => .int k) S1 else .no
    | _ => .no) := by
  subst hl hr
  refine (pe_listRg hc g1 m1 (prg_1 g2 m2 ha (odd_star ho))).w fun σ H Q h => ?_
  obtain ⟨W, ρ, S, s, P⟩ := h
  refine T.bd s P fun x S1 W1 v L1 s1 ra P1 => ?_
  cases x with
  | int j =>
    cases ra
    obtain ⟨⟨h1, h2⟩, P1⟩ := P1.ite
    refine ⟨j, rfl, ⟨by omega, by omega, by omega, by omega, by omega⟩, fun q hq => ?_⟩
    have hr : RVs X.K W1 ((List.range j.toNat).map fun (k : Nat) => .int k) (rgV 0 j) := by
      unfold rgV
      have : (j - 0).toNat = j.toNat := by omega
      rw [this]
      have gen : ∀ l : List Nat, RVs X.K W1 (l.map fun (k : Nat) => .int k) (l.map fun i => V.int (0 + (i : Nat))) := by
        intro l
        induction l with
        | nil => exact .nil
        | cons n l ih =>
          refine .cons ?_ ih
          have e : (0 + ((n : Nat) : Int)) = n := by omega
          show RV X.K W1 (.int n) (.int (0 + (n : Nat)))
          rw [e]
          exact .int _
      exact gen _
    exact P1.mk s1.rep hr hq
  | _ => exact P1.no.elim
theorem pe_lrg2V {m : Bool} {p1 p2 pos' : Pos} {l r : Str} (hl : l = Str.ofString "list") (hr : r = Str.ofString "range") (hc : X.calm = true) (g1 : Gl X l) (m1 : X.mg (Str.ofString "list") = none) (g2 : Gl X r) (m2 : X.mg (Str.ofString "range") = none) (ha : PE X a (T X.K ma)) (ho : odd a = false) (hb : PE X b (T X.K mb)) (ho2 : odd b = false) :
    PE X (.Call (.Name l p1) [.Call (.Name r p2) [a, b] [] pos'] [] pos) (T X.K fun ρ S => (ma ρ S).bd fun x S1 => (mb ρ S1).bd fun y S2 => match x, y with
    | .int i, .int j => if -(2 ^ 60) ≤ i ∧ i ≤ 2 ^ 60 ∧ -(2 ^ 60) ≤ j ∧ j ≤ 2 ^ 60 ∧ j - i ≤ 10000000 then mkL m ((List.range (j - i).toNat).map fun (k : Nat) => .int (i + k)) S2 else .no
    | _, _ => .no) := by
  subst hl hr
  refine (pe_listRg hc g1 m1 (prg_2 g2 m2 ha hb (odd_star ho) (odd_star ho2) (by rw [odd_star ho2]; rfl))).w fun σ H Q h => ?_
  obtain ⟨W, ρ, S, s, P⟩ := h
  refine T.bd s P fun x S1 W1 v L1 s1 ra P1 => T.bd s1 P1 fun y S2 W2 v2 L2 s2 rb P2 => ?_
  cases x with
  | int i =>
    cases y with
    | int j =>
      cases ra
      cases rb
      obtain ⟨⟨h1, h2, h3, h4, h5⟩, P2⟩ := P2.ite
      refine ⟨i, j, rfl, rfl, ⟨by omega, by omega, by omega, by omega, by omega⟩, fun q hq => ?_⟩
      have gen : ∀ l : List Nat, RVs X.K W2 (l.map fun (k : Nat) => .int (i + k)) (l.map fun k => V.int (i + (k : Nat))) := by
        intro l
        induction l with
        | nil => exact .nil
        | cons n l ih => exact .cons (.int _) ih
      exact P2.mk s2.rep (gen _) hq
    | _ => exact P2.no.elim
  | _ =>
    exfalso
    obtain ⟨r, S3, e, _⟩ := P1
    obtain ⟨_, _, _, e2⟩ := Out.bd_eq e
    cases e2
theorem rg_size {i j k : Int} (hk : 0 < k) : Builtin.Range.rangeSize i j k = (rgN i j k : Int) := by
  unfold Builtin.Range.rangeSize rgN
  rw [if_pos (by omega)]
  by_cases h : i < j
  · have e : (j - i - 1) / k + 1 = (j - i + k - 1) / k := by
      rw [show j - i + k - 1 = (j - i - 1) + 1 * k by omega, Int.add_mul_ediv_right _ _ (by omega)]
    have : 0 ≤ (j - i - 1) / k := Int.ediv_nonneg (by omega) (by omega)
    rw [if_pos h, e]
    omega
  · have : (j - i + k - 1) / k < 1 := Int.ediv_lt_of_lt_mul hk (by omega)
    rw [if_neg h]
    omega
theorem rg_le {i j k : Int} (hk : 0 < k) (h : j - i ≤ 10000000) : rgN i j k ≤ 10000000 := by
  unfold rgN
  have : (j - i + k - 1) / k ≤ 10000000 := by
    refine Int.ediv_le_of_le_mul hk ?_
    have : 10000000 * 1 ≤ 10000000 * k := Int.mul_le_mul_of_nonneg_left (by omega) (by omega)
    by_cases q : j - i ≤ 1
    · omega
    · have e := Int.mul_nonneg (show 0 ≤ (10000000 : Int) - 1 by omega) (show 0 ≤ k - 1 by omega)
      rw [Int.mul_sub, Int.sub_mul] at e
      omega
  omega
theorem rg_ok {i j k : Int} (h : -(2 ^ 60) ≤ i ∧ i ≤ 2 ^ 60 ∧ -(2 ^ 60) ≤ j ∧ j ≤ 2 ^ 60 ∧ j - i ≤ 10000000 ∧ 0 < k ∧ k ≤ 1000000) : RgC i j k (rgN i j k) := by
  obtain ⟨h1, h2, h3, h4, h5, h6, h7⟩ := h
  have hl := rg_le h6 h5
  refine ⟨by omega, by omega, ?_, rg_size h6⟩
  unfold Builtin.Range.small
  rw [rg_size h6]
  simp only [Builtin.Range.rangeFitsLong, Bool.and_eq_true, Bool.or_eq_true, decide_eq_true_eq, beq_iff_eq, show k > 0 from h6, if_true]
  omega
theorem intsQ_it {W : Wd} {S : Store} {Q : VK} {a : AV} {x : V} {f : List Int → Out AV} (R : Rep X.K W S) (ra : RV X.K W a x) (P : PostO X.K W (intsQ S a f) Q) : ∃ p ns, x = .ref p ∧ (SqL X.K W.H p (ns.map V.int) ∨ SqT X.K W.H p (ns.map V.int)) ∧ PostO X.K W (f ns) Q := by
  have gen : PostO X.K W (intsD S a f) Q → ∃ p ns, x = .ref p ∧ (SqL X.K W.H p (ns.map V.int) ∨ SqT X.K W.H p (ns.map V.int)) ∧ PostO X.K W (f ns) Q := fun P => by
    obtain ⟨p, ns, e, h, q⟩ := ints_it R ra P
    exact ⟨p, ns, e, .inl h, q⟩
  cases a with
  | tup l =>
    obtain ⟨ns, e, P2⟩ := PostO.opt (show PostO X.K W (optD (intsOf l) f) Q from P)
    obtain ⟨p, xs, rfl, h, r⟩ := ra.itT
    have el := intsOf_eq e
    subst el
    rw [RVs.of_ints r] at h
    exact ⟨p, ns, rfl, .inr h, P2⟩
  | _ => exact gen P
theorem pe_ssetV {m : Bool} {p1 p2 pos' : Pos} {l r : Str} (hl : l = Str.ofString "sorted") (hr : r = Str.ofString "set") (hc : X.calm = true) (g1 : Gl X l) (m1 : X.mg (Str.ofString "sorted") = none) (g2 : Gl X r) (m2 : X.mg (Str.ofString "set") = none) (ha : PE X a (T X.K ma)) (ho : odd a = false) :
    PE X (.Call (.Name l p1) [.Call (.Name r p2) [a] [] pos'] [] pos) (T X.K fun ρ S => (ma ρ S).bd fun x S1 => intsQ S1 x fun ns => if ns.length < 61 then mkL m ((sortI (dedI ns)).map .int) S1 else .no) := by
  subst hl hr
  have h1 := pe_callTy (pos := pos') (p := p2) (cr_setL hc) g2 m2 PyProof.Rows.boot_set (pa_cons ha pa_nil (odd_star ho)) (by decide) (by decide) (odd_star ho)
  refine (pe_callB (cr_sortedSet hc) g1 m1 PyProof.Rows.boot_sorted (pa_cons h1 pa_nil)).w fun σ H Q h => ?_
  obtain ⟨W, ρ, S, s, P⟩ := h
  show T X.K ma σ H fun v H1 => rSetL X.K X.w [v] H1 fun y H2 => rSortedSet X.w [y] H2 Q
  refine T.bd s P fun x S1 W1 v L1 s1 ra P1 => ?_
  obtain ⟨p, ns, rfl, hq, P1⟩ := intsQ_it s1.rep ra P1
  obtain ⟨hz, P1⟩ := P1.ite
  refine ⟨p, ns, rfl, hq, by omega, fun q c hcn hf => ?_⟩
  refine ⟨q, _, c, rfl, upd_same, by omega, fun ns' p' pw mem hlen hp' => ?_⟩
  have e : ns' = sortI (dedI ns) := pw_one pw (pw_riseI ns) fun k => (mem k).trans (decide_eq_true_iff.trans (mem_riseI (l := ns)).symm)
  rw [e]
  exact (P1.mono (Le.lay hf)).mk (s1.rep.lay hf) (RVs.ints _) hp'
theorem backTo_any {pos : Pos} {l : List (Bool × Sem Value)} (h : l.any (·.1) = false) : (backTo pos l).any (·.1) = false := by
  rw [← h]
  unfold backTo
  rw [List.any_map]
  rfl
/-- list(range(i, j, k)) -/
def tLR3 (ta : TA) : TE := fun σ H Q => ta σ H fun vs H1 => ∃ (i j k : Int) (n : Nat), vs = [.int i, .int j, .int k] ∧ RgC i j k n ∧ n ≤ 2 ^ 24 ∧ ∀ q, H1 q = none → Q (.ref q) (upd H1 q (.lst ((List.range n).map fun (t : Nat) => V.int (i + (t : Int) * k))))
theorem pe_listR3 {ta : TA} {p1 p2 pos' : Pos} (hc : X.calm = true) (g1 : Gl X "list") (m1 : X.mg "list" = none) (g2 : Gl X "range") (m2 : X.mg "range" = none) (ha : PA X [a, b, c] ta)
    (hs : starEach [a, b, c] X.env = (false, eval a X.env) :: starEach [b, c] X.env) (hpl : (backTo pos' (starEach [b, c] X.env)).any (·.1) = false) :
    PE X (.Call (.Name "list" p1) [.Call (.Name "range" p2) [a, b, c] [] pos'] [] pos) (tLR3 ta) := by
  refine ⟨fun pins s σ H Q I h => ?_⟩
  have na : starEach [.Call (.Name "range" p2) [a, b, c] [] pos'] X.env = (false, eval (.Call (.Name "range" p2) [a, b, c] [] pos') X.env) :: starEach [] X.env := rfl
  have made : wpAny (model X.prog X.w) X.A (eval (.Call (.Name "range" p2) [a, b, c] [] pos') X.env) (fun x s' => ∃ (r : Addr) (i j k : Int) (n : Nat) (t u v : Tok) (H' : Hp), x = .ref r ∧ IsRange s'.heap r i j k t u v ∧ Inv X pins σ H' s' ∧ RgC i j k n ∧ n ≤ 2 ^ 24 ∧ ∀ q, H' q = none → Q (.ref q) (upd H' q (.lst ((List.range n).map fun (t : Nat) => V.int (i + (t : Int) * k))))) X.xe s := by
    refine Call_ (ld_blt I g2 m2 boot_range (PyProof.Rows.callWith_type1 (thn (ha.run pos' pins s σ H _ I h) fun us s1 ⟨vs, H1, I1, r1, q1⟩ => ?_) hs hpl))
    obtain ⟨i, j, k, n, e, hr, hn, q⟩ := q1
    subst e
    rcases r1 with _ | ⟨r, _ | ⟨r', _ | ⟨r'', _ | _⟩⟩⟩
    · obtain ⟨t, rfl⟩ := r
      obtain ⟨t', rfl⟩ := r'
      obtain ⟨t'', rfl⟩ := r''
      exact call_range_3 hr.1 ⟨_, i, j, k, n, t, t', t'', H1, rfl, IsRange.new _ _ _ _ _ _ _, I1.kept fun b u e => Heap.get?_push_of_some _ e, hr, hn, q⟩ (.inl (PyProof.noPylong_small hr.2.1))
  refine Call_ (ld_blt I g1 m1 boot_list (PyProof.Rows.callWith_type1 (args_cons (thn made fun x s1 hx => args_nil ?_) na) na))
  obtain ⟨r, i, j, k, n, t, u, v, H1, rfl, hr, I1, ⟨c0, c1, c2, c3⟩, hn, q⟩ := hx
  refine call_list_range (n := n) (I1.ok.hd hc) hr c2 c3 hn fun h' tk acc c' hk e' hi => ?_
  have hlen : acc.toList.length = n := by rw [Array.length_toList]; exact hi.1
  have hv : Vals ((List.range n).map fun (t : Nat) => V.int (i + (t : Int) * k)) acc.toList := by
    rw [← hlen]
    refine vals_of_get acc.toList _ fun m u hm => ?_
    exact hi.2 m u (by rw [← hm, Array.getElem?_toList])
  refine ⟨.ref s1.heap.objs.size, upd H1 s1.heap.objs.size (.lst ((List.range n).map fun (t : Nat) => V.int (i + (t : Int) * k))), I1.laid hk (Nat.le_refl _) (show ObjOk X.prog X.w _ _ _ (.lst ((List.range n).map fun (t : Nat) => V.int (i + (t : Int) * k))) from ⟨?_, acc.toList, c', hv, ?_⟩), rfl, q _ (I1.hok.fresh (Nat.le_refl _))⟩
  · rw [List.length_map, List.length_range, sizeLine_eq]; omega
  · rw [Array.toArray_toList]; exact e'
theorem pe_lrg3V {m : Bool} {p1 p2 pos' : Pos} {l r : Str} (hl : l = Str.ofString "list") (hr : r = Str.ofString "range") (hc : X.calm = true) (g1 : Gl X l) (m1 : X.mg (Str.ofString "list") = none) (g2 : Gl X r) (m2 : X.mg (Str.ofString "range") = none) (ha : PE X a (T X.K ma)) (ho : odd a = false) (hb : PE X b (T X.K mb)) (ho2 : odd b = false) (hc3 : PE X c (T X.K mc)) (ho3 : odd c = false) :
    PE X (.Call (.Name l p1) [.Call (.Name r p2) [a, b, c] [] pos'] [] pos) (T X.K fun ρ S => (ma ρ S).bd fun x S1 => (mb ρ S1).bd fun y S2 => (mc ρ S2).bd fun z S3 => match x, y, z with
    | .int i, .int j, .int k => if -(2 ^ 60) ≤ i ∧ i ≤ 2 ^ 60 ∧ -(2 ^ 60) ≤ j ∧ j ≤ 2 ^ 60 ∧ j - i ≤ 10000000 ∧ 0 < k ∧ k ≤ 1000000 then mkL m ((List.range (rgN i j k)).map fun (t : Nat) => .int (i + t * k)) S3 else .no
    | _, _, _ => .no) := by
  subst hl hr
  refine (pe_listR3 hc g1 m1 g2 m2 (pa_consV ha (pa_consV hb (pa_consV hc3 pa_nilV ho3) ho2) ho) (odd_star ho) (backTo_any (by rw [odd_star ho2, odd_star ho3]; rfl))).w fun σ H Q h => ?_
  obtain ⟨W, ρ, S, st, P⟩ := h
  obtain ⟨r, S', e, p⟩ := P
  obtain ⟨x, S1, k1, e2⟩ := Out.bd_eq e
  obtain ⟨y, S2, k2, e3⟩ := Out.bd_eq e2
  obtain ⟨z, S3, k3, e4⟩ := Out.bd_eq e3
  have : ∃ i j k, x = .int i ∧ y = .int j ∧ z = .int k ∧ (-(2 ^ 60) ≤ i ∧ i ≤ 2 ^ 60 ∧ -(2 ^ 60) ≤ j ∧ j ≤ 2 ^ 60 ∧ j - i ≤ 10000000 ∧ 0 < k ∧ k ≤ 1000000) ∧ mkL m ((List.range (rgN i j k)).map fun (t : Nat) => .int (i + t * k)) S3 = .ok r S' := by
    split at e4
    · split at e4
      · rename_i hz
        exact ⟨_, _, _, rfl, rfl, rfl, hz, e4⟩
      · cases e4
    · cases e4
  obtain ⟨i, j, k, rfl, rfl, rfl, hz, e5⟩ := this
  refine ⟨W, ρ, S, st, [.int i, .int j, .int k], S3, by simp [k1, k2, k3], fun W1 xs L1 R1 rs => ?_⟩
  have P1 : PostO X.K W1 (mkL m ((List.range (rgN i j k)).map fun (t : Nat) => .int (i + t * k)) S3) Q := ⟨r, S', e5, p.mono L1⟩
  rcases rs with _ | ⟨r1, _ | ⟨r2, _ | ⟨r3, _ | _⟩⟩⟩
  · cases r1
    cases r2
    cases r3
    have gen : ∀ l : List Nat, RVs X.K W1 (l.map fun (t : Nat) => .int (i + (t : Int) * k)) (l.map fun (t : Nat) => V.int (i + (t : Int) * k)) := by
      intro l
      induction l with
      | nil => exact .nil
      | cons n l ih => exact .cons (.int _) ih
    exact ⟨i, j, k, _, rfl, rg_ok hz, Nat.le_trans (rg_le hz.2.2.2.2.2.1 hz.2.2.2.2.1) (by decide), fun q hq => P1.mk R1 (gen _) hq⟩
theorem pe_primV (hu : X.A.units + 64 < cLine) {m : Bool} {p : Prim} {x : Str} {p1 : Pos} {e1 : Expr} (hx : x = Str.ofString (primN p)) (hp : primOk p = true) (hc : X.calm = true) (g : Gl X x) (gd : (x == ("__debug__" : Str)) = false) (hm : X.mg (Str.ofString (primN p)) = none) (ha : PA X (e1 :: es) (TL X.K ml)) (ho : odd e1 = false)
    (hs : (starEach es X.env).any (·.1) = false) : PE X (.Call (.Name x p1) (e1 :: es) [] pos) (T X.K fun ρ S => (ml ρ S).bd fun xs S1 => primD m p xs S1) := by
  subst hx
  have hbt := backTo_any (pos := pos) hs
  have fin : ∀ σ H Q, T X.K (fun ρ S => (ml ρ S).bd fun xs S1 => primD m p xs S1) σ H Q → tCB (RLD X.K (primD m p)) (TL X.K ml) σ H Q := fun σ H Q h => by
    obtain ⟨W, ρ, S, s, P⟩ := h
    exact TL.bd s P fun xs S1 W1 vs L1 s1 r P1 => ⟨W1, S1, xs, rfl, s1.rep, r, P1⟩
  cases ht : primT p with
  | true =>
    have hv : primV p = .type (primN p) := by unfold primV; rw [if_pos ht]
    have q := prim_ok (X := X) hc hu (m := m) p hp
    rw [hv] at q
    exact (pe_callTy q g hm (by rw [boot_prim, hv]) ha (primN_ne p) gd (odd_star ho) hbt).w fin
  | false =>
    have hv : primV p = .builtin (primN p) := by unfold primV; rw [if_neg (by simp [ht])]
    have q := prim_ok (X := X) hc hu (m := m) p hp
    rw [hv] at q
    exact (pe_callB q g hm (by rw [boot_prim, hv]) ha (primN_ne p) gd (odd_star ho) hbt).w fin
theorem pe_callV {k : Nat} {x f : Str} {d : Fn} {p1 : Pos} (hx : x = f) (F : Fx X.prog X.w X.K X.mg X.base k f d) (hr : Room k X.A) (g : Gl X x) (gd : (x == ("__debug__" : Str)) = false) (ha : PA X es (TL X.K ml)) (ho : ∀ e r, es = e :: r → odd e = false ∧ (starEach r X.env).any (·.1) = false)
    (h0 : es = [] → ml = fun _ S => .ok [] S) : PE X (.Call (.Name x p1) es [] pos) (T X.K fun ρ S => (ml ρ S).bd fun xs S1 => d xs S1) := by
  subst hx
  obtain ⟨f, fd, ps, hm, hk, hb, har, F⟩ := F
  have fin : ∀ σ H Q, T X.K (fun ρ S => (ml ρ S).bd fun xs S1 => d xs S1) σ H Q → tCall (spOf X.K d) [] E0 (TL X.K ml) σ H Q := fun σ H Q h => by
    obtain ⟨W, ρ, S, s, P⟩ := h
    exact TL.bd s P fun xs S1 W1 vs L1 s1 r P1 => by rw [List.append_nil]; exact ⟨W1, S1, xs, rfl, s1.rep, r, P1⟩
  cases es with
  | nil =>
    refine (pe_call0 F hr g hm hk hb .nil pass0 gd).w fun σ H Q h => ?_
    obtain ⟨W, ρ, S, s, P⟩ := h
    rw [h0 rfl] at P
    exact ⟨W, S, [], s.hH, s.rep, .nil, P⟩
  | cons e r =>
    obtain ⟨h1, h2⟩ := ho e r rfl
    exact (pe_call F hr g hm hk hb .nil pass0 ha gd (odd_star h1) (backTo_any h2)).w fin

/-! methods of what is built in -/
theorem append_V {m : Bool} : MtR X "list.append" (fun x xs H Q => ∃ W S a as, W.H = H ∧ Rep X.K W S ∧ RV X.K W a x ∧ RVs X.K W as xs ∧ PostO X.K W (mthD m .append a as S) Q) := by
  rintro pins s σ H x xs v us Q I rx rs ⟨W, S, a, as, rfl, R, ra, rl, P⟩
  cases a with
  | loc i =>
    cases rl with
    | nil => exact P.no.elim
    | cons rb t => cases t with
      | cons _ _ => exact P.no.elim
      | nil =>
        rename_i b y
        cases e1 : S[i]? with
        | none => simp only [mthD, e1] at P; exact P.no.elim
        | some o =>
          cases o with
          | lst l =>
            simp only [mthD, e1] at P
            obtain ⟨hz, P⟩ := P.ite
            cases ra with
            | loc hi =>
              obtain ⟨ys, h1, r1⟩ := R.obj i _ e1
              refine mt_append pins s σ W.H _ _ v us Q I rx rs ⟨W.φ i, ys, y, rfl, rfl, h1, by rw [← r1.len]; exact hz, ?_⟩
              obtain ⟨r, S', e, P⟩ := P
              cases e
              exact P (W.lay (W.φ i) (.lst (ys ++ [y]))) _ (Le.wr R hi (R.nlk e1 rfl)) (R.wr hi (R.nlk e1 rfl) ⟨_, upd_same, (r1.mono (Le.wr R hi (R.nlk e1 rfl))).append (.cons (rb.mono (Le.wr R hi (R.nlk e1 rfl))) .nil)⟩) .non
          | _ => simp only [mthD, e1] at P; exact P.no.elim
  | _ => cases as <;> first | exact P.no.elim | (rename_i l; cases l <;> exact P.no.elim)
theorem pop0_V {m : Bool} : MtR X "list.pop" (fun x xs H Q => ∃ W S a as, W.H = H ∧ Rep X.K W S ∧ RV X.K W a x ∧ RVs X.K W as xs ∧ PostO X.K W (mthD m .pop0 a as S) Q) := by
  rintro pins s σ H x xs v us Q I rx rs ⟨W, S, a, as, rfl, R, ra, rl, P⟩
  cases a with
  | loc i =>
    cases rl with
    | cons _ _ => exact P.no.elim
    | nil =>
      cases e1 : S[i]? with
      | none => simp only [mthD, e1] at P; exact P.no.elim
      | some o =>
        cases o with
        | lst l =>
          simp only [mthD, e1] at P
          obtain ⟨c, hc, P⟩ := P.opt
          cases ra with
          | loc hi =>
            obtain ⟨ys, h1, r1⟩ := R.obj i _ e1
            obtain ⟨y, h2, r2⟩ := r1.get hc
            refine mt_pop pins s σ W.H _ _ v us Q I rx rs ⟨W.φ i, ys, y, rfl, rfl, h1, by rw [← r1.len]; exact h2, ?_⟩
            obtain ⟨r, S', e, P⟩ := P
            cases e
            exact P (W.lay (W.φ i) (.lst ys.dropLast)) _ (Le.wr R hi (R.nlk e1 rfl)) (R.wr hi (R.nlk e1 rfl) ⟨_, upd_same, (r1.mono (Le.wr R hi (R.nlk e1 rfl))).dropLast⟩) (r2.mono (Le.wr R hi (R.nlk e1 rfl)))
        | _ => simp only [mthD, e1] at P; exact P.no.elim
  | _ => cases as <;> first | exact P.no.elim | (rename_i l; cases l <;> exact P.no.elim)
theorem pop_V {m : Bool} : MtR X "list.pop" (fun x xs H Q => ∃ W S a as, W.H = H ∧ Rep X.K W S ∧ RV X.K W a x ∧ RVs X.K W as xs ∧ PostO X.K W (mthD m .pop a as S) Q) := by
  rintro pins s σ H x xs v us Q I rx rs ⟨W, S, a, as, rfl, R, ra, rl, P⟩
  cases a with
  | loc i =>
    cases rl with
    | nil => exact P.no.elim
    | cons rb t => cases t with
      | cons _ _ => cases rb <;> exact P.no.elim
      | nil =>
        cases rb with
        | int k =>
          cases e1 : S[i]? with
          | none => simp only [mthD, e1] at P; exact P.no.elim
          | some o =>
            cases o with
            | lst l =>
              simp only [mthD, e1] at P
              obtain ⟨⟨hk1, hk2⟩, P⟩ := P.ite
              obtain ⟨j, hj, P⟩ := P.opt
              obtain ⟨c, hc, P⟩ := P.opt
              cases ra with
              | loc hi =>
                obtain ⟨ys, h1, r1⟩ := R.obj i _ e1
                obtain ⟨y, h2, r2⟩ := r1.get hc
                refine mt_popAt pins s σ W.H _ _ v us Q I rx rs ⟨W.φ i, ys, k, j, y, rfl, rfl, h1, hk1, hk2, by rw [← r1.len]; exact hj, h2, ?_⟩
                obtain ⟨r, S', e, P⟩ := P
                cases e
                exact P (W.lay (W.φ i) (.lst (ys.eraseIdx j))) _ (Le.wr R hi (R.nlk e1 rfl)) (R.wr hi (R.nlk e1 rfl) ⟨_, upd_same, (r1.mono (Le.wr R hi (R.nlk e1 rfl))).eraseIdx j⟩) (r2.mono (Le.wr R hi (R.nlk e1 rfl)))
            | _ => simp only [mthD, e1] at P; exact P.no.elim
        | _ => exact P.no.elim
  | _ => cases as <;> first | exact P.no.elim | (rename_i l; cases l <;> exact P.no.elim)
theorem isC0_base {o : Expr} {nm : Str} {env : Env} (h : isC0 o = false) : attributeBase o nm env (eval o env) = eval o env := by
  cases o <;> try rfl
  rename_i f as ks p
  cases f <;> try rfl
  cases as <;> try rfl
  cases ks <;> try rfl
  cases h
theorem few_ok {pos : Pos} {env : Env} {es : List Expr} (h : es.length < 20) (hs : (starEach es env).any (·.1) = false) : ((backTo pos (starEach es env)).all (fun x => !x.1) && (backToKw pos (keywordEach [] env)).all (fun x => x.1.isSome)
      && decide (es.length + ([] : List Keyword).length + (if ([] : List Keyword).isEmpty then 0 else 1) < 30)) = true := by
  have h1 : (backTo pos (starEach es env)).all (fun x => !x.1) = true := by
    have := backTo_any (pos := pos) hs
    rw [List.any_eq_false] at this
    rw [List.all_eq_true]
    intro x hx
    simpa using this x hx
  rw [h1]
  simp [keywordEach, backToKw]
  omega
/-- the receiver, then the arguments -/
theorem T_met {K : PySem.W.Frag} {σ : L2.St} {H : Hp} {Q : VK} {m : Bool} {p : Mth} {mr : Ev → Store → Out AV} {Tn : String} {r : V → List V → Hp → VK → Prop} (h : T K (fun ρ S => (mr ρ S).bd fun x S1 => if rcvOk p S1 x = true then (ml ρ S1).bd fun xs S2 => mthD m p x xs S2 else .no) σ H Q)
    (ht : ∀ W S a x, Rep K W S → RV K W a x → rcvOk p S a = true → tyV K Tn x W.H) (hr : ∀ x xs H Q, (∃ W S a as, W.H = H ∧ Rep K W S ∧ RV K W a x ∧ RVs K W as xs ∧ PostO K W (mthD m p a as S) Q) → r x xs H Q) :
    tBM K Tn r (T K mr) (TL K ml) σ H Q := by
  obtain ⟨W, ρ, S, s, P⟩ := h
  refine T.bd s P fun a S1 W1 x L1 s1 ra P1 => ?_
  obtain ⟨hk, P1⟩ := P1.ite
  exact ⟨ht _ _ _ _ s1.rep ra hk, TL.bd s1 P1 fun xs S2 W2 vs L2 s2 r P2 => hr _ _ _ _ ⟨W2, S2, a, xs, rfl, s2.rep, ra.mono L2, r, P2⟩⟩
theorem tyV_list {K : PySem.W.Frag} {W : Wd} {S : Store} {a : AV} {x : V} (R : Rep K W S) (ra : RV K W a x) (h : (lstOf S a).isSome = true) : tyV K "list" x W.H := by
  obtain ⟨l, e⟩ := Option.isSome_iff_exists.mp h
  obtain ⟨p, xs, rfl, h1, _⟩ := lst_it R ra e
  exact .inl ⟨rfl, xs, SqL.of h1⟩
theorem index_V {m : Bool} : MtR X "list.index" (fun x xs H Q => ∃ W S a as, W.H = H ∧ Rep X.K W S ∧ RV X.K W a x ∧ RVs X.K W as xs ∧ PostO X.K W (mthD m .index a as S) Q) := by
  rintro pins s σ H x xs v us Q I rx rs ⟨W, S, a, as, rfl, R, ra, rl, P⟩
  have key : ∀ k, as = [.int k] → PostO X.K W (intsD S a fun ns => if k ∈ ns then .ok (.int (ns.idxOf k : Nat)) S else .no) Q := by
    intro k e
    subst e
    cases a <;> exact P
  cases rl with
  | nil => cases a <;> exact P.no.elim
  | cons rb t => cases t with
    | cons _ _ =>
      exfalso
      rename_i b _ _ _ _ _ _ _
      cases a <;> cases b <;> exact P.no.elim
    | nil =>
      rename_i b y
      cases b with
      | int k =>
        cases rb
        obtain ⟨p, ns, rfl, hq, P2⟩ := ints_it R ra (key k rfl)
        obtain ⟨hk, P2⟩ := P2.ite
        have hlt : ns.idxOf k < ns.length := List.idxOf_lt_length_of_mem hk
        have hget : ns[ns.idxOf k]? = some k := by rw [List.getElem?_eq_getElem hlt, List.getElem_idxOf]
        refine mt_index pins s σ W.H _ _ v us Q I rx rs ⟨p, ns.map V.int, .int k, ns.idxOf k, .int k, rfl, rfl, hq, rfl, by simp [flatV], by rw [List.getElem?_map, hget]; rfl, by simp [eqV], fun j z hj hz => ?_, P2.val R (.int _)⟩
        rw [List.getElem?_map] at hz
        have hj2 : j < ns.length := by omega
        rw [List.getElem?_eq_getElem hj2] at hz
        cases hz
        have := List.not_of_lt_findIdx (p := (· == k)) (xs := ns) (i := j) hj
        simpa [eqV] using this
      | _ => cases a <;> exact P.no.elim
theorem count_V {m : Bool} : MtR X "list.count" (fun x xs H Q => ∃ W S a as, W.H = H ∧ Rep X.K W S ∧ RV X.K W a x ∧ RVs X.K W as xs ∧ PostO X.K W (mthD m .count a as S) Q) := by
  rintro pins s σ H x xs v us Q I rx rs ⟨W, S, a, as, rfl, R, ra, rl, P⟩
  cases rl with
  | nil => cases a <;> exact P.no.elim
  | cons rb t => cases t with
    | cons _ _ => cases a <;> cases rb <;> exact P.no.elim
    | nil =>
      cases rb with
      | int k =>
        have P1 : PostO X.K W (intsD S a fun ns => .ok (.int (ns.count k : Nat)) S) Q := by cases a <;> exact P
        obtain ⟨p, ns, rfl, hq, P2⟩ := ints_it R ra P1
        exact mt_lcount pins s σ W.H _ _ v us Q I rx rs ⟨p, ns, k, rfl, rfl, hq, P2.val R (.int _)⟩
      | _ => cases a <;> exact P.no.elim
theorem index2_V (hu : X.A.units + 65 < cLine) {m : Bool} : MtR X "list.index" (fun x xs H Q => ∃ W S a as, W.H = H ∧ Rep X.K W S ∧ RV X.K W a x ∧ RVs X.K W as xs ∧ PostO X.K W (mthD m .index2 a as S) Q) := by
  rintro pins s σ H x xs v us Q I rx rs ⟨W, S, a, as, rfl, R, ra, rl, P⟩
  cases rl with
  | nil => cases a <;> exact P.no.elim
  | cons rb t => cases t with
    | nil => cases a <;> cases rb <;> exact P.no.elim
    | cons rc t => cases t with
      | cons _ _ => cases a <;> cases rb <;> cases rc <;> exact P.no.elim
      | nil =>
        cases rb with
        | int k =>
          cases rc with
          | int i =>
            have P1 : PostO X.K W (intsD S a fun ns => if 0 ≤ i ∧ i ≤ 1000000 ∧ k ∈ ns.drop i.toNat then .ok (.int (i.toNat + (ns.drop i.toNat).idxOf k : Nat)) S else .no) Q := by cases a <;> exact P
            obtain ⟨p, ns, rfl, hq, P2⟩ := ints_it R ra P1
            obtain ⟨⟨h1, h2, h3⟩, P2⟩ := P2.ite
            obtain ⟨n, rfl⟩ := Int.eq_ofNat_of_zero_le h1
            rw [Int.toNat_natCast] at h3 P2
            exact mt_indexF hu pins s σ W.H _ _ v us Q I rx rs ⟨p, ns, k, n, rfl, rfl, hq, by omega, h3, P2.val R (.int _)⟩
          | _ => cases a <;> exact P.no.elim
        | _ => cases a <;> cases rc <;> exact P.no.elim
theorem pe_metV (hu : X.A.units + 80 < cLine) {m : Bool} {p : Mth} {nm : Str} {ap cp : Pos} {o : Expr} {mr : Ev → Store → Out AV} (hn : nm = Str.ofString (mthN p)) (hp : mthOk p = true) (hr : PE X o (T X.K mr)) (hb : isC0 o = false) (hl : (ap.endLine == cp.line) = true) (hz : es.length < 20)
    (ha : PA X es (TL X.K ml)) (ho : ∀ e r, es = e :: r → odd e = false ∧ (starEach r X.env).any (·.1) = false) (h0 : es = [] → ml = fun _ S => .ok [] S) :
    PE X (.Call (.Attribute o nm ap) es [] cp) (T X.K fun ρ S => (mr ρ S).bd fun x S1 => if rcvOk p S1 x = true then (ml ρ S1).bd fun xs S2 => mthD m p x xs S2 else .no) := by
  subst hn
  have gen : ∀ {id : String}, (p = .append ∨ p = .pop0 ∨ p = .pop ∨ p = .index ∨ p = .index2 ∨ p = .count) → Slot "list" (Str.ofString (mthN p)) id → typeOf (.builtin id) = pure (.type "method_descriptor") →
      MtR X id (fun x xs H Q => ∃ W S a as, W.H = H ∧ Rep X.K W S ∧ RV X.K W a x ∧ RVs X.K W as xs ∧ PostO X.K W (mthD m p a as S) Q) →
      PE X (.Call (.Attribute o (Str.ofString (mthN p)) ap) es [] cp) (T X.K fun ρ S => (mr ρ S).bd fun x S1 => if rcvOk p S1 x = true then (ml ρ S1).bd fun xs S2 => mthD m p x xs S2 else .no) := by
    intro id hpp hs hty hm
    have ht : ∀ W S a x, Rep X.K W S → RV X.K W a x → rcvOk p S a = true → tyV X.K "list" x W.H := fun W S a x R ra h => tyV_list R ra (by rcases hpp with rfl | rfl | rfl | rfl | rfl | rfl <;> exact h)
    cases es with
    | nil =>
      refine (pe_bm0 PySem.F.plainAttrs_list hs hty hm hr (isC0_base hb) hl).w fun σ H Q h => ?_
      obtain ⟨W, ρ, S, s, P⟩ := h
      refine T.bd s P fun a S1 W1 x L1 s1 ra P1 => ?_
      obtain ⟨hk, P1⟩ := P1.ite
      rw [h0 rfl] at P1
      exact ⟨ht _ _ _ _ s1.rep ra hk, W1, S1, a, [], rfl, s1.rep, ra, .nil, P1⟩
    | cons e r =>
      obtain ⟨h1, h2⟩ := ho e r rfl
      refine (pe_bm PySem.F.plainAttrs_list hs hty hm hr ha (isC0_base hb) ?_ hl (odd_star h1) (backTo_any h2)).w fun σ H Q h => T_met h ht fun _ _ _ _ q => q
      exact few_ok hz (by rw [odd_star h1]; show (false || _) = false; rw [h2]; rfl)
  cases p with
  | append => exact gen (.inl rfl) PySem.F.slot_list_append PySem.F.type_list_append append_V
  | pop0 => exact gen (.inr (.inl rfl)) PySem.F.slot_list_pop PySem.F.type_list_pop pop0_V
  | pop => exact gen (.inr (.inr (.inl rfl))) PySem.F.slot_list_pop PySem.F.type_list_pop pop_V
  | index => exact gen (.inr (.inr (.inr (.inl rfl)))) PySem.F.slot_list_index PySem.F.type_list_index index_V
  | index2 => exact gen (.inr (.inr (.inr (.inr (.inl rfl))))) PySem.F.slot_list_index PySem.F.type_list_index (index2_V (by omega))
  | count => exact gen (.inr (.inr (.inr (.inr (.inr rfl))))) PySem.F.slot_list_count PySem.F.type_list_count count_V
  | _ => cases hp
end
end VI

set_option maxRecDepth 100000
set_option maxHeartbeats 1000000
/-! VI7: what is walked; comprehensions. -/
namespace VI
open PySem PySem.Spec PyProof.Rows L2 RZ

/-- a walk J gives these things, while the lists of gs stand -/
def WkOk (K : PySem.W.Frag) (W0 : Wd) (its : List AV) (gs : List (Nat × List AV)) (J : It) : Prop :=
  ∃ (G : Hp → Prop) (Y : Nat → Hp → V → Hp → Prop), Walk J its.length G Y ∧ (∀ W S, Lw W0 W → Rep K W S → Gd gs S → G W.H) ∧
    ∀ W S i x H', Lw W0 W → Rep K W S → Gd gs S → Y i W.H x H' → ∃ W' a, W'.H = H' ∧ Le W W' ∧ Rep K W' S ∧ its[i]? = some a ∧ RV K W' a x
theorem WkOk.mono {K : PySem.W.Frag} {W0 W1 : Wd} {its : List AV} {gs : List (Nat × List AV)} {J : It} (L : Lw W0 W1) (h : WkOk K W0 its gs J) : WkOk K W1 its gs J := by
  obtain ⟨G, Y, w, h1, h2⟩ := h
  exact ⟨G, Y, w, fun W S L1 => h1 W S (L.trans L1), fun W S i x H' L1 => h2 W S i x H' (L.trans L1)⟩
def TIt (K : PySem.W.Frag) (m : Ev → Store → Out (List AV × List (Nat × List AV))) : TI := fun σ H R =>
  ∃ W ρ S, Stt K W ρ S σ H ∧ ∃ w S', m ρ S = .ok w S' ∧ ∀ W' J, Le W W' → Rep K W' S' → WkOk K W' w.1 w.2 J → R J W'.H
theorem _root_.L2.PI.wk {X : Cx} {tg e : Expr} {t t' : TI} (h : PI X tg e t) (f : ∀ σ H Q, t' σ H Q → t σ H Q) : PI X tg e t' := ⟨fun pins s σ H Q I q => h.run pins s σ H Q I (f _ _ _ q)⟩

def FormIOk (P : Program) (w : World) (K : PySem.W.Frag) (mg : Str → Option Value) (base : Heap) (k : Nat) (F : FormI) : Prop :=
  ∀ N X sc tg e es ms, GE P w K mg base k N X sc → F.mat sc tg e = some es → PEs X es ms → PI X tg e (TIt K (F.sem ms))
/-- the forms that are right at a level -/
def Go (P : Program) (w : World) (K : PySem.W.Frag) (mg : Str → Option Value) (base : Heap) (k : Nat) : FO := ⟨FormOk P w K mg base k, FormIOk P w K mg base k, FormSOk P w K mg base k, FormTOk P w K mg base k, FormCOk P w K mg base k⟩
section
variable {K : PySem.W.Frag} {W0 : Wd}
/-- a list that changes no more; a tuple -/
theorem wk_lst {a : Addr} {xs : List V} {l : List AV} (h : W0.H a = some (.lst xs)) (s : W0.stb a) (r : RVs K W0 l xs) : WkOk K W0 l [] (Itl K a) := by
  refine ⟨_, _, by rw [r.len]; exact walk_list (xs := xs), fun W S L R _ => SqL.of (L.stb a _ h s).1, fun W S i x H' L R _ y => ?_⟩
  obtain ⟨e, hx⟩ := y
  obtain ⟨c, h1, h2⟩ := (r.mw L).getV hx
  exact ⟨W, c, e.symm, Le.refl W, R, h1, h2⟩
theorem wk_tup {a : Addr} {xs : List V} {l : List AV} (h : ∀ W, Lw W0 W → SqT K W.H a xs) (r : RVs K W0 l xs) : WkOk K W0 l [] (Itt K a) := by
  refine ⟨_, _, by rw [r.len]; exact walk_tup (xs := xs), fun W S L R _ => h W L, fun W S i x H' L R _ y => ?_⟩
  obtain ⟨e, hx⟩ := y
  obtain ⟨c, h1, h2⟩ := (r.mw L).getV hx
  exact ⟨W, c, e.symm, Le.refl W, R, h1, h2⟩
theorem wk_scr {a : Addr} {l : List Int} (h : ∀ W, Lw W0 W → SqL K W.H a (l.map V.int)) : WkOk K W0 (l.map .int) [] (Itl K a) := by
  refine ⟨_, _, by rw [List.length_map, ← List.length_map (f := V.int)]; exact walk_list, fun W S L R _ => h W L, fun W S i x H' L R _ y => ?_⟩
  obtain ⟨e, hx⟩ := y
  obtain ⟨c, h1, h2⟩ := (RVs.ints (K := K) (W := W) l).getV hx
  exact ⟨W, c, e.symm, Le.refl W, R, h1, h2⟩
/-- a list of the store -/
theorem wk_loc {i : Nat} {l : List AV} (hi : i < W0.n) : WkOk K W0 l [(i, l)] (Itl K (W0.φ i)) := by
  refine ⟨fun H => ∃ xs, H (W0.φ i) = some (.lst xs) ∧ xs.length = l.length, fun j H x H' => H' = H ∧ ∀ xs, SqL K H (W0.φ i) xs → xs[j]? = some x, ⟨fun j H hj g => ?_, fun H g => ?_, fun j H x H' _ _ y => y⟩, fun W S L R g => ?_, fun W S j x H' L R g y => ?_⟩
  · obtain ⟨xs, h1, h2⟩ := g
    have hj' : j < xs.length := by rw [h2]; exact hj
    exact ⟨xs, xs[j], SqL.of h1, by simp [hj']⟩
  · obtain ⟨xs, h1, h2⟩ := g
    exact ⟨xs, SqL.of h1, by rw [h2]; exact Nat.le_refl _⟩
  · obtain ⟨xs, h1, h2⟩ := R.obj i _ (g (i, l) (by simp))
    rw [L.φ i hi] at h1
    exact ⟨xs, h1, h2.len.symm⟩
  · obtain ⟨xs, h1, h2⟩ := R.obj i _ (g (i, l) (by simp))
    rw [L.φ i hi] at h1
    obtain ⟨e, hx⟩ := y
    obtain ⟨c, h3, h4⟩ := h2.getV (hx xs (SqL.of h1))
    exact ⟨W, c, e.symm, Le.refl W, R, h3, h4⟩
theorem wk_str {z : Str} : WkOk K W0 (z.cps.toList.map fun c => .str ⟨#[c]⟩) [] (Its z) := by
  refine ⟨_, _, by rw [List.length_map, Array.length_toList]; exact walk_str, fun W S L R _ => trivial, fun W S i x H' L R _ y => ?_⟩
  obtain ⟨e, c, hc, hx⟩ := y
  subst hx
  exact ⟨W, .str ⟨#[c]⟩, e.symm, Le.refl W, R, by simp [hc], .str _⟩
theorem wk_rng {lo : Int} {n : Nat} : WkOk K W0 ((List.range n).map fun (k : Nat) => .int (lo + k)) [] (Itr lo n) := by
  refine ⟨fun _ => True, fun i H x H' => H' = H ∧ x = .int (lo + i) ∧ i < n, ⟨fun i H hi _ => by show i < n; simpa using hi, fun H _ => by show n ≤ _; simp, fun i H x H' hi _ y => ⟨y.1, y.2, by simpa using hi⟩⟩, fun W S L R _ => trivial, fun W S i x H' L R _ y => ?_⟩
  obtain ⟨e, hx, hi⟩ := y
  subst hx
  exact ⟨W, .int (lo + i), e.symm, Le.refl W, R, by simp [hi], .int _⟩
theorem wk_rngC {lo : Int} {n : Nat} : WkOk K W0 ((List.range n).map fun (k : Nat) => .int (lo - k)) [] (Itc lo (-1) n) := by
  refine ⟨fun _ => True, fun i H x H' => H' = H ∧ x = .int (lo + (i : Nat) * (-1)) ∧ i < n, ⟨fun i H hi _ => by show i < n; simpa using hi, fun H _ => by show n ≤ _; simp, fun i H x H' hi _ y => ⟨y.1, y.2, by simpa using hi⟩⟩, fun W S L R _ => trivial, fun W S i x H' L R _ y => ?_⟩
  obtain ⟨e, hx, hi⟩ := y
  subst hx
  have e2 : lo + (i : Nat) * (-1) = lo - i := by omega
  rw [e2]
  exact ⟨W, .int (lo - i), e.symm, Le.refl W, R, by simp [hi], .int _⟩
end

section
variable {X : Cx} {tg a b c : Expr} {pos p1 : Pos} {ma mb mc : Ev → Store → Out AV}
def itvD (ma : Ev → Store → Out AV) : Ev → Store → Out (List AV × List (Nat × List AV)) := fun ρ S => (ma ρ S).bd fun x S1 => match x with
    | .loc i => match S1[i]? with
      | some (.lst l) => .ok (l, [(i, l)]) S1
      | _ => .no
    | .str z => .ok (z.cps.toList.map fun c => .str ⟨#[c]⟩, []) S1
    | x => match itemsOf S1 x with
      | some l => .ok (l, []) S1
      | none => .no
theorem pi_itvV (ha : PE X a (T X.K ma)) : PI X tg a (TIt X.K (itvD ma)) := by
  refine ⟨fun pins s σ H R I h => ?_⟩
  obtain ⟨W, ρ, S, st, w, S', e, P⟩ := h
  obtain ⟨x, S1, e1, e2⟩ := Out.bd_eq e
  -- by what it is
  have lists : (∀ W1 v, Le W W1 → Rep X.K W1 S1 → RV X.K W1 x v → ∃ p xs, v = .ref p ∧ SqL X.K W1.H p xs ∧ R (Itl X.K p) W1.H) → wpAny (model X.prog X.w) X.A (eval a X.env) (fun v s1 => wpAny (model X.prog X.w) X.A (pyIter v) (PIE X pins σ tg R) X.xe s1) X.xe s := fun k =>
    (pi_list ha).run pins s σ H R I ⟨W, ρ, S, st, x, S1, e1, fun W1 v L1 R1 r1 => let ⟨p, xs, h1, h2, h3⟩ := k W1 v L1 R1 r1; ⟨p, h1, ⟨xs, h2⟩, h3⟩⟩
  have tups : (∀ W1 v, Le W W1 → Rep X.K W1 S1 → RV X.K W1 x v → ∃ p xs, v = .ref p ∧ SqT X.K W1.H p xs ∧ R (Itt X.K p) W1.H) → wpAny (model X.prog X.w) X.A (eval a X.env) (fun v s1 => wpAny (model X.prog X.w) X.A (pyIter v) (PIE X pins σ tg R) X.xe s1) X.xe s := fun k =>
    (pi_tup ha).run pins s σ H R I ⟨W, ρ, S, st, x, S1, e1, fun W1 v L1 R1 r1 => let ⟨p, xs, h1, h2, h3⟩ := k W1 v L1 R1 r1; ⟨p, h1, ⟨xs, h2⟩, h3⟩⟩
  cases x with
  | loc i =>
    dsimp only at e2
    cases e3 : S1[i]? with
    | none => simp [e3] at e2
    | some o =>
      cases o with
      | lst l =>
        simp only [e3] at e2
        cases e2
        refine lists fun W1 v L1 R1 r1 => ?_
        cases r1 with
        | loc hi =>
          obtain ⟨xs, h1, h2⟩ := R1.obj i _ e3
          exact ⟨_, xs, rfl, SqL.of h1, P W1 _ L1 R1 (wk_loc hi)⟩
      | _ => simp [e3] at e2
  | str z =>
    cases e2
    exact (pi_str ha).run pins s σ H R I ⟨W, ρ, S, st, _, _, e1, fun W1 v L1 R1 r1 => by cases r1; exact ⟨z, rfl, P W1 _ L1 R1 wk_str⟩⟩
  | tup l =>
    cases e2
    refine tups fun W1 v L1 R1 r1 => ?_
    cases r1 with
    | tup h1 h2 r => exact ⟨_, _, rfl, SqT.of h1, P W1 _ L1 R1 (wk_tup (fun W2 L2 => SqT.of (L2.stb _ _ h1 h2).1) r)⟩
  | ktp l =>
    cases e2
    refine tups fun W1 v L1 R1 r1 => ?_
    cases r1 with
    | ktup h1 r => exact ⟨_, _, rfl, h1 _, P W1 _ L1 R1 (wk_tup (fun W2 L2 => h1 _) r)⟩
  | ftp l =>
    cases e2
    refine tups fun W1 v L1 R1 r1 => ?_
    cases r1 with
    | ftup h1 _ h2 r => exact ⟨_, _, rfl, .inl (.inr ⟨_, h1⟩), P W1 _ L1 R1 (wk_tup (fun W2 L2 => .inl (.inr ⟨_, (L2.stb _ _ h1 h2).1⟩)) r)⟩
  | lst l =>
    cases e2
    refine lists fun W1 v L1 R1 r1 => ?_
    cases r1 with
    | lst h1 h2 r => exact ⟨_, _, rfl, SqL.of h1, P W1 _ L1 R1 (wk_lst h1 h2 r)⟩
  | scr l =>
    cases e2
    refine lists fun W1 v L1 R1 r1 => ?_
    cases r1 with
    | scr h1 h2 => exact ⟨_, _, rfl, .inl (.inr ⟨_, h1⟩), P W1 _ L1 R1 (wk_scr fun W2 L2 => .inl (.inr ⟨_, (L2.stb _ _ h1 h2).1⟩))⟩
    | scl h1 h2 => exact ⟨_, _, rfl, .inl (.inl h1), P W1 _ L1 R1 (wk_scr fun W2 L2 => .inl (.inl (L2.stb _ _ h1 h2).1))⟩
    | kscr h1 => exact ⟨_, _, rfl, h1 _, P W1 _ L1 R1 (wk_scr fun W2 L2 => h1 _)⟩
  | _ => cases e2
theorem pi_it1V {r : Str} (hr : r = Str.ofString "range") (g : Gl X r) (hm : X.mg (Str.ofString "range") = none) (ha : PE X a (T X.K ma)) (ho : odd a = false) : PI X tg (.Call (.Name r p1) [a] [] pos) (TIt X.K fun ρ S => (ma ρ S).bd fun x S1 => match x with
    | .int j => if j ≤ 2 ^ 60 ∧ -(2 ^ 60) ≤ j then .ok ((List.range j.toNat).map fun (k : Nat) => .int k, []) S1 else .no
    | _ => .no) := by
  subst hr
  refine (pi_range1 g hm (pa_consV ha pa_nilV ho) (by rw [odd_star ho]; rfl)).wk fun σ H R h => ?_
  obtain ⟨W, ρ, S, st, w, S', e, P⟩ := h
  obtain ⟨x, S1, k1, e2⟩ := Out.bd_eq e
  cases x with
  | int j =>
    dsimp only at e2
    split at e2
    · rename_i hz
      cases e2
      refine ⟨W, ρ, S, st, [.int j], _, by simp [k1]; rfl, fun W1 xs L1 R1 rs => ?_⟩
      cases rs with
      | cons r1 t =>
        cases t
        cases r1
        refine ⟨j, rfl, by omega, by omega, P W1 _ L1 R1 ?_⟩
        have := wk_rng (K := X.K) (W0 := W1) (lo := 0) (n := j.toNat)
        simpa using this
    · cases e2
  | _ => cases e2
theorem pi_it2V {r : Str} (hr : r = Str.ofString "range") (g : Gl X r) (hm : X.mg (Str.ofString "range") = none) (ha : PE X a (T X.K ma)) (ho : odd a = false) (hb : PE X b (T X.K mb)) (ho2 : odd b = false) : PI X tg (.Call (.Name r p1) [a, b] [] pos) (TIt X.K fun ρ S => (ma ρ S).bd fun x S1 => (mb ρ S1).bd fun y S2 => match x, y with
    | .int i, .int j => if j ≤ 2 ^ 60 ∧ -(2 ^ 60) ≤ j ∧ i ≤ 2 ^ 60 ∧ -(2 ^ 60) ≤ i then .ok ((List.range (j - i).toNat).map fun (k : Nat) => .int (i + k), []) S2 else .no
    | _, _ => .no) := by
  subst hr
  refine (pi_range2 g hm (pa_consV ha (pa_consV hb pa_nilV ho2) ho) (by rw [odd_star ho, odd_star ho2]; rfl) (by rw [odd_star ho2]; rfl)).wk fun σ H R h => ?_
  obtain ⟨W, ρ, S, st, w, S', e, P⟩ := h
  obtain ⟨x, S1, k1, e2⟩ := Out.bd_eq e
  obtain ⟨y, S2, k2, e3⟩ := Out.bd_eq e2
  cases x with
  | int i =>
    cases y with
    | int j =>
      dsimp only at e3
      split at e3
      · rename_i hz
        cases e3
        refine ⟨W, ρ, S, st, [.int i, .int j], _, by simp [k1, k2]; rfl, fun W1 xs L1 R1 rs => ?_⟩
        cases rs with
        | cons r1 t =>
          cases t with
          | cons r2 t =>
            cases t
            cases r1
            cases r2
            exact ⟨i, j, rfl, ⟨by omega, by omega, by omega, by omega⟩, P W1 _ L1 R1 wk_rng⟩
      · cases e3
    | _ => cases e3
  | _ => cases e3
theorem pi_it3V {r : Str} (hr : r = Str.ofString "range") (g : Gl X r) (hm : X.mg (Str.ofString "range") = none) (ha : PE X a (T X.K ma)) (ho : odd a = false) (hb : PE X b (T X.K mb)) (ho2 : odd b = false) (hc : PE X c (T X.K mc)) (ho3 : odd c = false) :
    PI X tg (.Call (.Name r p1) [a, b, c] [] pos) (TIt X.K fun ρ S => (ma ρ S).bd fun x S1 => (mb ρ S1).bd fun y S2 => (mc ρ S2).bd fun z S3 => match x, y, z with
    | .int i, .int j, .int (-1) => if j ≤ 2 ^ 60 ∧ -(2 ^ 60) ≤ j ∧ i ≤ 2 ^ 60 ∧ -(2 ^ 60) ≤ i then .ok ((List.range (i - j).toNat).map fun (k : Nat) => .int (i - k), []) S3 else .no
    | _, _, _ => .no) := by
  subst hr
  refine (pi_range3 g hm (pa_consV ha (pa_consV hb (pa_consV hc pa_nilV ho3) ho2) ho) (odd_star ho) (backTo_any (by rw [odd_star ho2, odd_star ho3]; rfl))).wk fun σ H R h => ?_
  obtain ⟨W, ρ, S, st, w, S', e, P⟩ := h
  obtain ⟨x, S1, k1, e2⟩ := Out.bd_eq e
  obtain ⟨y, S2, k2, e3⟩ := Out.bd_eq e2
  obtain ⟨z, S3, k3, e4⟩ := Out.bd_eq e3
  have : ∃ i j, x = .int i ∧ y = .int j ∧ z = .int (-1) ∧ (j ≤ 2 ^ 60 ∧ -(2 ^ 60) ≤ j ∧ i ≤ 2 ^ 60 ∧ -(2 ^ 60) ≤ i) ∧ w = ((List.range (i - j).toNat).map fun (k : Nat) => .int (i - k), []) ∧ S3 = S' := by
    split at e4
    · split at e4
      · rename_i hz
        cases e4
        exact ⟨_, _, rfl, rfl, rfl, hz, rfl, rfl⟩
      · cases e4
    · cases e4
  obtain ⟨i, j, rfl, rfl, rfl, hz, rfl, rfl⟩ := this
  refine ⟨W, ρ, S, st, [.int i, .int j, .int (-1)], S3, by simp [k1, k2, k3], fun W1 xs L1 R1 rs => ?_⟩
  cases rs with
  | cons r1 t =>
    cases t with
    | cons r2 t =>
      cases t with
      | cons r3 t =>
        cases t
        cases r1
        cases r2
        cases r3
        exact ⟨i, j, -1, _, rfl, RgC.neg (by omega) (by omega) (by omega) (by omega), P W1 _ L1 R1 wk_rngC⟩
end
section
variable {K : PySem.W.Frag} {W0 : Wd}
/-- a list's place, what it holds while gs stand -/
def Kl (K : PySem.W.Frag) (W0 : Wd) (a : Addr) (l : List AV) (gs : List (Nat × List AV)) : Prop := ∀ W S, Lw W0 W → Rep K W S → Gd gs S → ∃ xs, SqL K W.H a xs ∧ RVs K W l xs
theorem Kl.of {S : Store} {x : AV} {v : V} {l : List AV} (R : Rep K W0 S) (r : RV K W0 x v) (e : lstOf S x = some l) : ∃ a, v = .ref a ∧ Kl K W0 a l (gdOf x l) ∧ ∃ xs, SqL K W0.H a xs := by
  cases x with
  | lst m =>
    cases e
    cases r with
    | lst h s r => exact ⟨_, rfl, fun W S L R _ => ⟨_, SqL.of (L.stb _ _ h s).1, r.mw L⟩, _, SqL.of h⟩
  | loc i =>
    simp only [lstOf] at e
    cases e1 : S[i]? with
    | none => simp [e1] at e
    | some o =>
      cases o with
      | lst m =>
        simp only [e1] at e
        cases e
        cases r with
        | loc hi =>
          refine ⟨_, rfl, fun W S' L R' g => ?_, ?_⟩
          · obtain ⟨xs, h1, h2⟩ := R'.obj i _ (g (i, l) (by simp [gdOf]))
            rw [L.φ i hi] at h1
            exact ⟨xs, SqL.of h1, h2⟩
          · obtain ⟨xs, h1, h2⟩ := R.obj i _ e1
            exact ⟨xs, SqL.of h1⟩
      | _ => simp [e1] at e
  | _ => cases e
theorem Gd.left {g h : List (Nat × List AV)} {S : Store} (k : Gd (g ++ h) S) : Gd g S := fun p hp => k p (List.mem_append_left _ hp)
theorem Gd.right {g h : List (Nat × List AV)} {S : Store} (k : Gd (g ++ h) S) : Gd h S := fun p hp => k p (List.mem_append_right _ hp)
/-- a new pair is told -/
theorem pair_told {W : Wd} {S : Store} {T : Addr} {x y : V} {a b : AV} {H' : Hp} (R : Rep K W S) (hT : W.H T = none) (e : H' = upd W.H T (.tup [x, y])) (ra : RV K W a x) (rb : RV K W b y) :
    ∃ W', W'.H = H' ∧ Le W W' ∧ Rep K W' S ∧ RV K W' (.tup [a, b]) (.ref T) :=
  ⟨W.lay T (.tup [x, y]), e.symm, Le.lay hT, R.lay hT, .tup upd_same (R.layStb hT) (.cons (ra.mono (Le.lay hT)) (.cons (rb.mono (Le.lay hT)) .nil))⟩
theorem wk_zip {a b : Addr} {l k : List AV} {g h : List (Nat × List AV)} (ha : Kl K W0 a l g) (hb : Kl K W0 b k h) : WkOk K W0 ((l.zip k).map fun p => .tup [p.1, p.2]) (g ++ h) (Itz K a b) := by
  refine ⟨fun H => ∃ xs ys, SqL K H a xs ∧ SqL K H b ys ∧ l.length = xs.length ∧ k.length = ys.length, (Itz K a b).yld, ⟨fun i H hi G => ?_, fun H G => ?_, fun _ _ _ _ _ _ y => y⟩, fun W S L R q => ?_, fun W S i x H' L R q y => ?_⟩
  · obtain ⟨xs, ys, h1, h2, h3, h4⟩ := G
    have hi' : i < min l.length k.length := by simpa using hi
    have hx : i < xs.length := by omega
    have hy : i < ys.length := by omega
    exact ⟨xs, ys, xs[i], ys[i], h1, h2, by simp [hx], by simp [hy]⟩
  · obtain ⟨xs, ys, h1, h2, h3, h4⟩ := G
    exact ⟨xs, ys, h1, h2, by simp; omega⟩
  · obtain ⟨xs, h1, h2⟩ := ha W S L R q.left
    obtain ⟨ys, h3, h4⟩ := hb W S L R q.right
    exact ⟨xs, ys, h1, h3, h2.len, h4.len⟩
  · obtain ⟨xs, h1, h2⟩ := ha W S L R q.left
    obtain ⟨ys, h3, h4⟩ := hb W S L R q.right
    obtain ⟨T, x', y', rfl, hT, eH, k1, k2⟩ := y
    obtain ⟨c, e1, r1⟩ := h2.getV (k1 xs h1)
    obtain ⟨d, e2, r2⟩ := h4.getV (k2 ys h3)
    obtain ⟨W', q1, q2, q3, q4⟩ := pair_told R hT eH r1 r2
    exact ⟨W', .tup [c, d], q1, q2, q3, by rw [List.getElem?_map, (List.getElem?_zip_eq_some (z := (c, d))).mpr ⟨e1, e2⟩]; rfl, q4⟩
theorem wk_zipT {a b : Addr} {l k : List AV} {xs ys : List V} (ha : ∀ W, Lw W0 W → SqT K W.H a xs) (hb : ∀ W, Lw W0 W → SqT K W.H b ys) (ra : RVs K W0 l xs) (rb : RVs K W0 k ys) : WkOk K W0 ((l.zip k).map fun p => .tup [p.1, p.2]) [] (ItzT K a b) := by
  refine ⟨fun H => SqT K H a xs ∧ SqT K H b ys, (ItzT K a b).yld, ⟨fun i H hi G => ?_, fun H G => ?_, fun _ _ _ _ _ _ y => y⟩, fun W S L R q => ⟨ha W L, hb W L⟩, fun W S i x H' L R q y => ?_⟩
  · have h1 := ra.len
    have h2 := rb.len
    have hi' : i < min l.length k.length := by simpa using hi
    have hx : i < xs.length := by omega
    have hy : i < ys.length := by omega
    exact ⟨xs, ys, xs[i], ys[i], G.1, G.2, by simp [hx], by simp [hy]⟩
  · have h1 := ra.len
    have h2 := rb.len
    exact ⟨xs, ys, G.1, G.2, by simp; omega⟩
  · obtain ⟨T, x', y', rfl, hT, eH, k1, k2⟩ := y
    obtain ⟨c, e1, r1⟩ := (ra.mw L).getV (k1 xs (ha W L))
    obtain ⟨d, e2, r2⟩ := (rb.mw L).getV (k2 ys (hb W L))
    obtain ⟨W', q1, q2, q3, q4⟩ := pair_told R hT eH r1 r2
    exact ⟨W', .tup [c, d], q1, q2, q3, by rw [List.getElem?_map, (List.getElem?_zip_eq_some (z := (c, d))).mpr ⟨e1, e2⟩]; rfl, q4⟩
theorem wk_enum {a : Addr} {l : List AV} {g : List (Nat × List AV)} (ha : Kl K W0 a l g) : WkOk K W0 (l.mapIdx fun k x => .tup [.int k, x]) g (Ite K a) := by
  refine ⟨fun H => ∃ xs, SqL K H a xs ∧ l.length = xs.length, (Ite K a).yld, ⟨fun i H hi G => ?_, fun H G => ?_, fun _ _ _ _ _ _ y => y⟩, fun W S L R q => ?_, fun W S i x H' L R q y => ?_⟩
  · obtain ⟨xs, h1, h3⟩ := G
    have hx : i < xs.length := by rw [← h3]; simpa using hi
    exact ⟨xs, xs[i], h1, by simp [hx]⟩
  · obtain ⟨xs, h1, h3⟩ := G
    exact ⟨xs, h1, by simp; omega⟩
  · obtain ⟨xs, h1, h2⟩ := ha W S L R q
    exact ⟨xs, h1, h2.len⟩
  · obtain ⟨xs, h1, h2⟩ := ha W S L R q
    obtain ⟨T, x', rfl, hT, eH, k1⟩ := y
    obtain ⟨c, e1, r1⟩ := h2.getV (k1 xs h1)
    obtain ⟨W', q1, q2, q3, q4⟩ := pair_told R hT eH (.int (i : Nat)) r1
    exact ⟨W', .tup [.int (i : Nat), c], q1, q2, q3, by simp [e1], q4⟩
theorem wk_enumT {a : Addr} {l : List AV} {xs : List V} (ha : ∀ W, Lw W0 W → SqT K W.H a xs) (ra : RVs K W0 l xs) : WkOk K W0 (l.mapIdx fun k x => .tup [.int k, x]) [] (IteT K a xs) := by
  refine ⟨fun H => SqT K H a xs, (IteT K a xs).yld, ⟨fun i H hi G => ?_, fun H G => ?_, fun _ _ _ _ _ _ y => y⟩, fun W S L R q => ha W L, fun W S i x H' L R q y => ?_⟩
  · have h1 := ra.len
    have hi' : i < l.length := by simpa using hi
    exact ⟨G, by omega⟩
  · have h1 := ra.len
    exact ⟨G, by simp; omega⟩
  · obtain ⟨T, x', rfl, hT, eH, k1⟩ := y
    obtain ⟨c, e1, r1⟩ := (ra.mw L).getV k1
    obtain ⟨W', q1, q2, q3, q4⟩ := pair_told R hT eH (.int (i : Nat)) r1
    exact ⟨W', .tup [.int (i : Nat), c], q1, q2, q3, by simp [e1], q4⟩
end
section
variable {X : Cx} {tg a b c : Expr} {pos p1 : Pos} {ma mb mc : Ev → Store → Out AV}
theorem zipD_cases {α : Type} {x y : AV} {S S' : Store} {f : List AV → List AV → List (Nat × List AV) → Out α} {w : α} (h : zipD x y S f = .ok w S') :
    (∃ l k, x = .tup l ∧ y = .tup k ∧ f l k [] = .ok w S') ∨ ∃ l k, lstOf S x = some l ∧ lstOf S y = some k ∧ f l k (gdOf x l ++ gdOf y k) = .ok w S' := by
  have gen : optD (lstOf S x) (fun l => optD (lstOf S y) fun k => f l k (gdOf x l ++ gdOf y k)) = .ok w S' → ∃ l k, lstOf S x = some l ∧ lstOf S y = some k ∧ f l k (gdOf x l ++ gdOf y k) = .ok w S' := fun h => by
    cases e : lstOf S x with
    | none => rw [e] at h; cases h
    | some l =>
      cases e2 : lstOf S y with
      | none => rw [e, e2] at h; cases h
      | some k => rw [e, e2] at h; exact ⟨l, k, rfl, rfl, h⟩
  cases x with
  | tup l =>
    cases y with
    | tup k => exact .inl ⟨l, k, rfl, rfl, h⟩
    | _ => exact .inr (gen h)
  | _ => exact .inr (gen h)
theorem pi_izpV {r : Str} {elts : List Expr} {kk : Nat} {tpos : Pos} (hr : r = Str.ofString "zip") (g : Gl X r) (hm : X.mg (Str.ofString "zip") = none) (ha : PE X a (T X.K ma)) (ho : odd a = false) (hb : PE X b (T X.K mb)) (ho2 : odd b = false) :
    PI X (.Tuple elts kk tpos) (.Call (.Name r p1) [a, b] [] pos) (TIt X.K fun ρ S => (ma ρ S).bd fun x S1 => (mb ρ S1).bd fun y S2 => zipD x y S2 fun l k gs => .ok ((l.zip k).map fun p => .tup [p.1, p.2], gs) S2) := by
  subst hr
  refine (pi_zipA g hm (pa_consV ha (pa_consV hb pa_nilV ho2) ho) (odd_star ho) (backTo_any (by rw [odd_star ho2]; rfl))).wk fun σ H R h => ?_
  obtain ⟨W, ρ, S, st, w, S', e, P⟩ := h
  obtain ⟨x, S1, k1, e2⟩ := Out.bd_eq e
  obtain ⟨y, S2, k2, e3⟩ := Out.bd_eq e2
  have hS : S2 = S' := by
    rcases zipD_cases e3 with ⟨l, k, _, _, q⟩ | ⟨l, k, _, _, q⟩ <;> (cases q; rfl)
  subst hS
  refine ⟨W, ρ, S, st, [x, y], S2, by simp [k1, k2], fun W1 xs L1 R1 rs => ?_⟩
  cases rs with
  | cons r1 t =>
    cases t with
    | cons r2 t =>
      cases t
      rcases zipD_cases e3 with ⟨l, k, rfl, rfl, q⟩ | ⟨l, k, h1, h2, q⟩
      · cases q
        cases r1 with
        | tup h1 s1 t1 =>
          cases r2 with
          | tup h2 s2 t2 => exact ⟨_, _, _, _, rfl, .inr ⟨SqT.of h1, SqT.of h2, P W1 _ L1 R1 (wk_zipT (fun W2 L2 => SqT.of (L2.stb _ _ h1 s1).1) (fun W2 L2 => SqT.of (L2.stb _ _ h2 s2).1) t1 t2)⟩⟩
      · cases q
        obtain ⟨p, rfl, q1, xs, q2⟩ := Kl.of R1 r1 h1
        obtain ⟨p', rfl, q3, ys, q4⟩ := Kl.of R1 r2 h2
        exact ⟨p, p', xs, ys, rfl, .inl ⟨q2, q4, P W1 _ L1 R1 (wk_zip q1 q3)⟩⟩
theorem pi_ienV {r : Str} {elts : List Expr} {kk : Nat} {tpos : Pos} (hr : r = Str.ofString "enumerate") (g : Gl X r) (hm : X.mg (Str.ofString "enumerate") = none) (ha : PE X a (T X.K ma)) (ho : odd a = false) :
    PI X (.Tuple elts kk tpos) (.Call (.Name r p1) [a] [] pos) (TIt X.K fun ρ S => (ma ρ S).bd fun x S1 => enD x S1) := by
  subst hr
  refine (pi_enum2 g hm (pa_consV ha pa_nilV ho) (by rw [odd_star ho]; rfl)).wk fun σ H R h => ?_
  obtain ⟨W, ρ, S, st, w, S', e, P⟩ := h
  obtain ⟨x, S1, k1, e2⟩ := Out.bd_eq e
  have sp : (∃ l, (x = .tup l ∨ x = .ftp l) ∧ w = (l.mapIdx fun k x => .tup [.int k, x], []) ∧ S' = S1) ∨ ∃ l, lstOf S1 x = some l ∧ w = (l.mapIdx fun k x => .tup [.int k, x], gdOf x l) ∧ S' = S1 := by
    have gen : optD (lstOf S1 x) (fun l => .ok (l.mapIdx fun k x => AV.tup [.int k, x], gdOf x l) S1) = .ok w S' → ∃ l, lstOf S1 x = some l ∧ w = (l.mapIdx fun k x => .tup [.int k, x], gdOf x l) ∧ S' = S1 := fun h => by
      cases e3 : lstOf S1 x with
      | none => rw [e3] at h; cases h
      | some l => rw [e3] at h; cases h; exact ⟨l, rfl, rfl, rfl⟩
    cases x with
    | tup l => cases e2; exact .inl ⟨l, .inl rfl, rfl, rfl⟩
    | ftp l => cases e2; exact .inl ⟨l, .inr rfl, rfl, rfl⟩
    | _ => exact .inr (gen e2)
  refine ⟨W, ρ, S, st, [x], _, by simp [k1]; rfl, fun W1 xs L1 R1 rs => ?_⟩
  cases rs with
  | cons r1 t =>
    cases t
    rcases sp with ⟨l, rfl | rfl, rfl, rfl⟩ | ⟨l, e3, rfl, rfl⟩
    rotate_left
    · cases r1 with
      | ftup h1 _ s1 t1 => exact .inr ⟨_, _, rfl, .inl (.inr ⟨_, h1⟩), P W1 _ L1 R1 (wk_enumT (fun W2 L2 => .inl (.inr ⟨_, (L2.stb _ _ h1 s1).1⟩)) t1)⟩
    rotate_left
    · cases r1 with
      | tup h1 s1 t1 => exact .inr ⟨_, _, rfl, SqT.of h1, P W1 _ L1 R1 (wk_enumT (fun W2 L2 => SqT.of (L2.stb _ _ h1 s1).1) t1)⟩
    · obtain ⟨p, rfl, q1, ys, q2⟩ := Kl.of R1 r1 e3
      exact .inl ⟨p, ys, rfl, q2, P W1 _ L1 R1 (wk_enum q1)⟩
/-! targets -/
mutual
def gOf (K : PySem.W.Frag) : Tg → TG
  | .n i => gName i
  | .tup t => gTup K t.len (gsOf K t)
  | _ => fun _ _ _ _ => False
def gsOf (K : PySem.W.Frag) : Tg → TGs
  | .nil => gNil
  | .cons t r => gCons (gOf K t) (gsOf K r)
  | _ => fun _ _ _ _ => False
end
/-- two rows of slots, alike but at vs -/
def SlEq (vs : List Nat) (σ σ' : L2.St) : Prop := ∀ j, j ∉ vs → σ'[j]? = σ[j]?
mutual
theorem gOf_ok {K : PySem.W.Frag} {W : Wd} : ∀ (t : Tg) {a : AV} {v : V} {ρ ρ' : Ev} {σ : L2.St} {Q : L2.St → Hp → Prop}, tgD t a ρ = some ρ' → RV K W a v → ER K W ρ σ → (∀ σ', ER K W ρ' σ' → SlEq t.slots σ σ' → Q σ' W.H) → gOf K t v σ W.H Q
  | .n i, a, v, ρ, ρ', σ, Q, e, r, er, k => by
    cases e
    exact k _ (er.set i r) fun j hj => List.getElem?_set_ne (by simpa [Tg.slots, eq_comm] using hj)
  | .tup t, a, v, ρ, ρ', σ, Q, e, r, er, k => by
    cases a with
    | tup l =>
      obtain ⟨p, xs, rfl, h, rl⟩ := r.itT
      refine ⟨p, xs, rfl, h, ?_, gsOf_ok t e rl er k⟩
      rw [← rl.len]
      exact tgs_len t e
    | _ => cases e
  | .nil, _, _, _, _, _, _, e, _, _, _ => by cases e
  | .cons _ _, _, _, _, _, _, _, e, _, _, _ => by cases e
theorem gsOf_ok {K : PySem.W.Frag} {W : Wd} : ∀ (t : Tg) {l : List AV} {vs : List V} {ρ ρ' : Ev} {σ : L2.St} {Q : L2.St → Hp → Prop}, tgsD t l ρ = some ρ' → RVs K W l vs → ER K W ρ σ → (∀ σ', ER K W ρ' σ' → SlEq t.slots σ σ' → Q σ' W.H) → gsOf K t vs σ W.H Q
  | .nil, l, vs, ρ, ρ', σ, Q, e, r, er, k => by
    cases r with
    | nil => cases e; exact ⟨rfl, k _ er fun j _ => rfl⟩
    | cons _ _ => cases e
  | .cons t u, l, vs, ρ, ρ', σ, Q, e, r, er, k => by
    cases r with
    | nil => cases e
    | cons p q =>
      rename_i a x l xs
      have e : (match tgD t a ρ with
        | some ρ1 => tgsD u l ρ1
        | none => none) = some ρ' := e
      cases e1 : tgD t a ρ with
      | none => rw [e1] at e; cases e
      | some ρ1 =>
        rw [e1] at e
        exact ⟨x, xs, rfl, gOf_ok t e1 p er fun σ1 er1 s1 => gsOf_ok u e q er1 fun σ2 er2 s2 => k σ2 er2 fun j hj => by
          simp only [Tg.slots, List.mem_append, not_or] at hj
          rw [s2 j hj.2, s1 j hj.1]⟩
  | .n _, _, _, _, _, _, _, e, _, _, _ => by cases e
  | .tup _, _, _, _, _, _, _, e, _, _, _ => by cases e
theorem tgs_len : ∀ (t : Tg) {l : List AV} {ρ ρ' : Ev}, tgsD t l ρ = some ρ' → l.length = t.len
  | .nil, l, ρ, ρ', e => by
    cases l with
    | nil => rfl
    | cons _ _ => cases e
  | .cons t u, l, ρ, ρ', e => by
    cases l with
    | nil => cases e
    | cons a l =>
      have e : (match tgD t a ρ with
        | some ρ1 => tgsD u l ρ1
        | none => none) = some ρ' := e
      cases e1 : tgD t a ρ with
      | none => rw [e1] at e; cases e
      | some ρ1 =>
        rw [e1] at e
        show l.length + 1 = u.len + 1
        rw [tgs_len u e]
  | .n _, _, _, _, e => by cases e
  | .tup _, _, _, _, e => by cases e
end
theorem assignEach_cons {e : Expr} {es : List Expr} {env : Env} (h : odd e = false) : assignEach (e :: es) env = (false, assign e env) :: assignEach es env := by
  cases e <;> first | rfl | cases h
mutual
theorem pg_V (hc : X.calm = true) (hN : X.N.Nodup) {sc : Scope} (hsc : X.env.scope = sc) {B : Str → Bool} (hB : X.fn = B) : ∀ (t : Tg) (e : Expr), ceT X.N sc B t e = true → PG X e (gOf X.K t)
  | .n i, e, h => by
    cases e with
    | Name x p =>
      simp only [ceT, Bool.and_eq_true, decide_eq_true_eq] at h
      have hl := h.2
      subst hsc hB
      unfold locB at hl
      split at hl
      · rename_i e; exact pg_name hN h.1 (.inl e) (.inr e)
      · rename_i e; exact pg_name hN h.1 (.inr e) (.inl hl)
      · cases hl
    | _ => cases h
  | .tup t, e, h => by
    cases e with
    | Tuple es k p =>
      obtain ⟨h1, h2, h3⟩ := pgs_V hc hN hsc hB t es h
      exact pg_tup hc h1 h2 h3
    | _ => cases h
  | .nil, e, h => by cases e <;> cases h
  | .cons _ _, e, h => by cases e <;> cases h
theorem pgs_V (hc : X.calm = true) (hN : X.N.Nodup) {sc : Scope} (hsc : X.env.scope = sc) {B : Str → Bool} (hB : X.fn = B) : ∀ (t : Tg) (es : List Expr), ceTs X.N sc B t es = true → PGs X es (gsOf X.K t) ∧ (assignEach es X.env).length = t.len ∧ (assignEach es X.env).findIdx? (·.1) = none
  | .nil, es, h => by
    cases es with
    | nil => exact ⟨pgs_nil, rfl, rfl⟩
    | cons _ _ => cases h
  | .cons t r, es, h => by
    cases es with
    | nil => cases h
    | cons e es =>
      simp only [ceTs, Bool.and_eq_true] at h
      have ho : odd e = false := by
        cases t with
        | n i => cases e <;> first | rfl | (have := h.1; cases this)
        | tup u => cases e <;> first | rfl | (have := h.1; cases this)
        | nil => cases e <;> (have := h.1; cases this)
        | cons _ _ => cases e <;> (have := h.1; cases this)
      obtain ⟨h1, h2, h3⟩ := pgs_V hc hN hsc hB r es h.2
      refine ⟨pgs_cons (pg_V hc hN hsc hB t e h.1) h1 (by rw [assignEach_cons ho]; rfl), ?_, ?_⟩
      · rw [assignEach_cons ho, List.length_cons, h2]; rfl
      · rw [assignEach_cons ho, List.findIdx?_cons, h3]; rfl
  | .n _, es, h => by cases es <;> cases h
  | .tup _, es, h => by cases es <;> cases h
end
end
end VI

set_option maxRecDepth 100000
set_option maxHeartbeats 1000000
/-! VI8: comprehensions; the whole of an expression. -/
namespace VI
open PySem PySem.Spec PyProof.Rows L2 RZ

section
variable {K : PySem.W.Frag} {W : Wd} {S : Store} {D : Addr}
/-- a list that is just being filled, out of sight -/
def Wd.hide (W : Wd) (D : Addr) : Wd := { W with hid := fun a => W.hid a ∨ a = D, H := upd W.H D (.lst []) }
theorem Lw.hide (R : Rep K W S) (h : W.H D = none) : Lw W (W.hide D) :=
  ⟨Nat.le_refl _, fun _ _ => rfl, fun a u e s => ⟨by show upd W.H D _ a = _; rw [upd_ne (ne_of_none e h)]; exact e, fun q => q.elim s.1 (ne_of_none e h), s.2⟩, rfl, fun a u _ e => by show upd W.H D _ a = _; rw [upd_ne (ne_of_none e h)]; exact e⟩
theorem Rep.hide (R : Rep K W S) (h : W.H D = none) : Rep K (W.hide D) S := by
  have fr := R.free h
  refine ⟨R.len, R.inj, fun a q => ?_, fun i u e => ?_, R.lk⟩
  · by_cases ha : a = D
    · subst ha
      exact ⟨⟨_, upd_same⟩, fr.2⟩
    · rcases q with q | q
      · obtain ⟨⟨u, e⟩, h2⟩ := R.hid a q
        exact ⟨⟨u, by show upd W.H D _ a = _; rw [upd_ne ha]; exact e⟩, h2⟩
      · exact absurd q ha
  · have r := R.obj i u e
    obtain ⟨v, ev⟩ := r.some
    show RO K (W.hide D) (W.φ i) u
    exact r.mw (Lw.hide R h) (by show upd W.H D _ (W.φ i) = _; rw [upd_ne (ne_of_none ev h)])
/-- its content changed -/
def Wd.fill (W : Wd) (D : Addr) (xs : List V) : Wd := { W with H := upd W.H D (.lst xs) }
theorem Lw.fill {xs : List V} (h : W.hid D) (hn : ¬ W.lkd D) : Lw W (W.fill D xs) :=
  ⟨Nat.le_refl _, fun _ _ => rfl, fun a u e s => ⟨by show upd W.H D _ a = _; rw [upd_ne (fun z => s.1 (by rw [z]; exact h))]; exact e, s⟩, rfl, fun a u q e => by show upd W.H D _ a = _; rw [upd_ne (fun z => hn (by rw [← z]; exact q))]; exact e⟩
theorem Rep.fill (R : Rep K W S) {xs : List V} (h : W.hid D) : Rep K (W.fill D xs) S := by
  refine ⟨R.len, R.inj, fun a q => ⟨?_, (R.hid a q).2⟩, fun i u e => ?_, R.lk⟩
  · by_cases ha : a = D
    · subst ha; exact ⟨_, upd_same⟩
    · obtain ⟨⟨u, e⟩, _⟩ := R.hid a q
      exact ⟨u, by show upd W.H D _ a = _; rw [upd_ne ha]; exact e⟩
  · have hi : i < W.n := by rw [← R.len]; exact (List.getElem?_eq_some_iff.mp e).1
    show RO K (W.fill D xs) (W.φ i) u
    exact (R.obj i u e).mw (Lw.fill h (R.hlk h)) (by show upd W.H D _ (W.φ i) = _; rw [upd_ne ((R.hid D h).2 i hi)])
/-- it comes to sight -/
def Wd.show_ (W : Wd) (hid : Addr → Prop) : Wd := { W with hid := hid }
theorem Lw.show_ {hid : Addr → Prop} (h : ∀ a, hid a → W.hid a) : Lw W (W.show_ hid) :=
  ⟨Nat.le_refl _, fun _ _ => rfl, fun a u e s => ⟨e, fun q => s.1 (h a q), s.2⟩, rfl, fun _ _ _ e => e⟩
theorem Rep.show_ (R : Rep K W S) {hid : Addr → Prop} (h : ∀ a, hid a → W.hid a) : Rep K (W.show_ hid) S :=
  ⟨R.len, R.inj, fun a q => R.hid a (h a q), fun i u e => (R.obj i u e).mw (Lw.show_ h) rfl, R.lk⟩
end

theorem compD_guard {t : Tg} {me mc : Ev → Store → Out AV} {gs : List (Nat × List AV)} {ρ : Ev} {its : List AV} {S S' : Store} {l : List AV} (h : compD t me mc gs ρ its S = .ok l S') : Gd gs S := by
  cases its with
  | nil =>
    unfold compD at h
    split at h
    · assumption
    · cases h
  | cons a r =>
    unfold compD at h
    split at h
    · assumption
    · cases h
theorem compD_nil {t : Tg} {me mc : Ev → Store → Out AV} {gs : List (Nat × List AV)} {ρ : Ev} {S S' : Store} {l : List AV} (h : compD t me mc gs ρ [] S = .ok l S') : l = [] ∧ S' = S := by
  unfold compD at h
  split at h
  · cases h; exact ⟨rfl, rfl⟩
  · cases h
theorem compD_cons {t : Tg} {me mc : Ev → Store → Out AV} {gs : List (Nat × List AV)} {ρ : Ev} {a : AV} {r : List AV} {S S' : Store} {l : List AV} (h : compD t me mc gs ρ (a :: r) S = .ok l S') :
    ∃ ρ1 b S1, tgD t a ρ = some ρ1 ∧ mc ρ1 S = .ok (.bl b) S1 ∧ ((b = false ∧ compD t me mc gs ρ r S1 = .ok l S') ∨ ∃ x S2 l', b = true ∧ me ρ1 S1 = .ok x S2 ∧ compD t me mc gs ρ r S2 = .ok l' S' ∧ l = x :: l' ∧ l'.length < sizeLine) := by
  unfold compD at h
  split at h
  · split at h
    · rename_i ρ1 e
      obtain ⟨b, S1, e1, h⟩ := Out.bd_eq h
      cases b with
      | bl b =>
        cases b with
        | false => exact ⟨ρ1, false, S1, e, e1, .inl ⟨rfl, h⟩⟩
        | true =>
          obtain ⟨x, S2, e2, h⟩ := Out.bd_eq h
          obtain ⟨l', S3, e3, h⟩ := Out.bd_eq h
          split at h
          · cases h
            exact ⟨ρ1, true, S1, e, e1, .inr ⟨x, S2, l', rfl, e2, e3, rfl, by assumption⟩⟩
          · cases h
      | _ => cases h
    · cases h
  · cases h
theorem compD_len {t : Tg} {me mc : Ev → Store → Out AV} {gs : List (Nat × List AV)} {ρ : Ev} : ∀ {its : List AV} {S S' : Store} {l : List AV}, compD t me mc gs ρ its S = .ok l S' → l.length ≤ sizeLine := by
  intro its
  induction its with
  | nil => intro S S' l h; obtain ⟨rfl, _⟩ := compD_nil h; exact Nat.zero_le _
  | cons a r ih =>
    intro S S' l h
    obtain ⟨_, _, _, _, _, k | ⟨_, _, _, _, _, _, el, k⟩⟩ := compD_cons h
    · exact ih k.2
    · rw [el]; exact k
theorem SlEq.wipe {vs vs' : List Nat} {σ σ' : L2.St} (h : SlEq vs σ σ') (hv : ∀ i, i ∈ vs → i ∈ vs') (hl : σ'.length = σ.length) : L2.wipe σ' vs' = L2.wipe σ vs' := by
  have key : ∀ (ws : List Nat) (j : Nat) (τ : L2.St), (L2.wipe τ ws)[j]? = if j ∈ ws then (if j < τ.length then some none else none) else τ[j]? := by
    intro ws
    induction ws with
    | nil => intro j τ; simp [L2.wipe]
    | cons v ws ih =>
      intro j τ
      unfold L2.wipe
      by_cases hj : v = j
      · subst hj
        rw [List.getElem?_set]
        simp [wipe_length]
      · rw [List.getElem?_set_ne hj, ih]
        have : (j ∈ v :: ws) ↔ j ∈ ws := by simp [Ne.symm hj]
        by_cases h2 : j ∈ ws
        · simp [h2]
        · rw [if_neg h2, if_neg (by rw [this]; exact h2)]
  apply List.ext_getElem?
  intro j
  rw [key, key, hl]
  by_cases h2 : j ∈ vs'
  · simp [h2]
  · rw [if_neg h2, if_neg h2]
    exact h j fun q => h2 (hv j q)

mutual
theorem tgD_len : ∀ (t : Tg) {a : AV} {ρ ρ' : Ev}, tgD t a ρ = some ρ' → ρ'.length = ρ.length
  | .n i, a, ρ, ρ', e => by cases e; simp
  | .tup t, a, ρ, ρ', e => by
    cases a with
    | tup l => exact tgsD_len t e
    | _ => cases e
  | .nil, _, _, _, e => by cases e
  | .cons _ _, _, _, _, e => by cases e
theorem tgsD_len : ∀ (t : Tg) {l : List AV} {ρ ρ' : Ev}, tgsD t l ρ = some ρ' → ρ'.length = ρ.length
  | .nil, l, ρ, ρ', e => by
    cases l with
    | nil => cases e; rfl
    | cons _ _ => cases e
  | .cons t u, l, ρ, ρ', e => by
    cases l with
    | nil => cases e
    | cons a l =>
      have e : (match tgD t a ρ with
        | some ρ1 => tgsD u l ρ1
        | none => none) = some ρ' := e
      cases e1 : tgD t a ρ with
      | none => rw [e1] at e; cases e
      | some ρ1 => rw [e1] at e; rw [tgsD_len u e, tgD_len t e1]
  | .n _, _, _, _, e => by cases e
  | .tup _, _, _, _, e => by cases e
end
section
variable {X : Cx} {pos : Pos}
theorem comp_ok {K : PySem.W.Frag} {m : Bool} {own : List (Str × Nat)} {t : Tg} {mi : Ev → Store → Out (List AV × List (Nat × List AV))} {me mc : Ev → Store → Out AV} {tt : TT} {te : TE} {σ : L2.St} {H : Hp} {Q : VK} (hs : ∀ i, i ∈ t.slots → i ∈ own.map (·.2))
    (htt : ∀ σ H Q, TB K mc σ H Q → tt σ H Q) (hte : ∀ σ H Q, T K me σ H Q → te σ H Q)
    (h : T K (fun ρ S => (mi ρ S).bd fun w S1 => (compD t me mc w.2 (wipeE ρ (own.map (·.2))) w.1 S1).bd fun l S2 => mkL m l S2) σ H Q) : tLc (TIt K mi) (gOf K t) tt te (own.map (·.2)) σ H Q := by
  obtain ⟨W, ρ, S, st, r, S', e, P⟩ := h
  obtain ⟨w, S1, e1, e2⟩ := Out.bd_eq e
  obtain ⟨l, S2, e2, e3⟩ := Out.bd_eq e2
  have hlen := compD_len e2
  refine ⟨W, ρ, S, st, w, S1, e1, fun W1 J L1 R1 wk D hD => ?_⟩
  obtain ⟨G, Y, walk, hG, hY⟩ := wk
  have hDh : ¬ W1.hid D := (R1.free hD).1
  refine lc_it walk (fun i H => ∃ Wi Si acc avs rest, Wi.H = H ∧ Rep K Wi Si ∧ Lw W1 Wi ∧ Wi.hid = (W1.hide D).hid ∧ (∀ a u, W1.hid a → W1.H a = some u → Wi.H a = some u) ∧ Wi.H D = some (.lst acc) ∧ RVs K Wi avs acc ∧
      compD t me mc w.2 (wipeE ρ (own.map (·.2))) (w.1.drop i) Si = .ok rest S2 ∧ avs ++ rest = l) ?_ ?_ ?_ ?_
  · refine ⟨W1.hide D, S1, [], [], l, rfl, R1.hide hD, Lw.hide R1 hD, rfl, fun a u q e => ?_, upd_same, .nil, by simpa using e2, rfl⟩
    show upd W1.H D _ a = _
    rw [upd_ne (ne_of_none e hD)]; exact e
  · rintro i H hi ⟨Wi, Si, acc, avs, rest, rfl, Ri, Li, hh, ho, hd, ra, ec, el⟩
    exact hG Wi Si Li Ri (compD_guard ec)
  · rintro i x H H' hi ⟨Wi, Si, acc, avs, rest, rfl, Ri, Li, hh, ho, hd, ra, ec, el⟩ hy
    obtain ⟨W2, a, rfl, L2', R2, ha, rx⟩ := hY Wi Si i x H' Li Ri (compD_guard ec) hy
    have hdr : w.1.drop i = a :: w.1.drop (i + 1) := by
      obtain ⟨h1, h2⟩ := List.getElem?_eq_some_iff.mp ha
      rw [List.drop_eq_getElem_cons h1, h2]
    rw [hdr] at ec
    obtain ⟨ρ1, b, S3, q1, q2, q3⟩ := compD_cons ec
    have er : ER K W2 (wipeE ρ (own.map (·.2))) (wipe σ (own.map (·.2))) := ((st.er.mono L1).mw (Li.trans L2'.lw)).wipe _
    refine gOf_ok t q1 rx er fun σ2 er2 sl => ⟨sl.wipe hs ?_ |>.trans ?_, htt _ _ _ ⟨W2, ρ1, Si, ⟨rfl, R2, er2⟩, b, S3, q2, fun W3 L3 R3 => ?_⟩⟩
    · rw [← er2.len, ← er.len]
      exact tgD_len t q1
    · have key : ∀ (ws : List Nat) (τ : L2.St), wipe (wipe τ ws) ws = wipe τ ws := by
        intro ws τ
        exact SlEq.wipe (vs := ws) (fun j hj => by
          have k2 : ∀ (ws : List Nat) (τ : L2.St), j ∉ ws → (wipe τ ws)[j]? = τ[j]? := by
            intro ws
            induction ws with
            | nil => intro τ _; rfl
            | cons v ws ih =>
              intro τ hj
              simp only [List.mem_cons, not_or] at hj
              unfold L2.wipe
              rw [List.getElem?_set_ne (Ne.symm hj.1), ih τ hj.2]
          exact k2 ws τ hj) (fun i h => h) (wipe_length _ _)
      exact key _ _
    · have L13 : Lw W1 W3 := (Li.trans L2'.lw).trans L3.lw
      have hh3 : W3.hid = (W1.hide D).hid := L3.hid.trans (L2'.hid.trans hh)
      have hDi : Wi.hid D := by rw [hh]; exact .inr rfl
      have hd2 : W2.H D = some (.lst acc) := L2'.hh D _ hDi hd
      have hd3 : W3.H D = some (.lst acc) := L3.hh D _ (by rw [L2'.hid]; exact hDi) hd2
      have ho3 : ∀ a u, W1.hid a → W1.H a = some u → W3.H a = some u := fun a u q e => L3.hh a u (by rw [L2'.hid, hh]; exact .inl q) (L2'.hh a u (by rw [hh]; exact .inl q) (ho a u q e))
      rcases q3 with ⟨rfl, q3⟩ | ⟨y, S4, l', rfl, q3, q4, el', hz⟩
      · dsimp only
        rw [if_neg (by decide)]
        exact ⟨W3, S3, acc, avs, rest, rfl, R3, L13, hh3, ho3, hd3, (ra.mono L2').mono L3, q3, el⟩
      · dsimp only
        rw [if_pos rfl]
        refine hte _ _ _ ⟨W3, ρ1, S3, ⟨rfl, R3, er2.mono L3⟩, y, S4, q3, fun W4 v L4 R4 rv => ?_⟩
        have hD3 : W3.hid D := by rw [hh3]; exact .inr rfl
        have hD4 : W4.hid D := by rw [L4.hid]; exact hD3
        have ra4 := ((ra.mono L2').mono L3).mono L4
        subst el'
        refine ⟨acc, L4.hh D _ hD3 hd3, ?_, W4.fill D (acc ++ [v]), S4, acc ++ [v], avs ++ [y], l', rfl, R4.fill hD4, (L13.trans L4.lw).trans (Lw.fill hD4 (R4.hlk hD4)), L4.hid.trans hh3, fun a u q e => ?_, upd_same, (ra4.append (.cons rv .nil)).mw (Lw.fill hD4 (R4.hlk hD4)), q4, ?_⟩
        · have h1 := ra4.len
          have h2 : (avs ++ y :: l').length = l.length := by rw [el]
          rw [List.length_append, List.length_cons] at h2
          omega
        · show upd W4.H D _ a = _
          rw [upd_ne (fun z => hDh (by rw [← z]; exact q))]
          exact L4.hh a u (by rw [hh3]; exact .inl q) (ho3 a u q e)
        · rw [List.append_assoc]; exact el
  · rintro H ⟨Wi, Si, acc, avs, rest, rfl, Ri, Li, hh, ho, hd, ra, ec, el⟩
    rw [List.drop_eq_nil_of_le (Nat.le_refl _)] at ec
    obtain ⟨rfl, rfl⟩ := compD_nil ec
    rw [List.append_nil] at el
    subst el
    have hDi : Wi.hid D := by rw [hh]; exact .inr rfl
    have sub : ∀ a, W1.hid a → Wi.hid a := fun a q => by rw [hh]; exact .inl q
    have hφ := (Ri.hid D hDi).2
    have Lf : Lw W1 (Wi.show_ W1.hid) := Li.trans (Lw.show_ sub)
    have Lf' : Le W1 (Wi.show_ W1.hid) := Lf.le rfl ho
    have Rf := Ri.show_ sub
    have rf := ra.mw (Lw.show_ sub)
    cases m with
    | false =>
      cases e3
      exact P (Wi.show_ W1.hid) (.ref D) (L1.trans Lf') Rf (.lst hd ⟨hDh, hφ⟩ rf)
    | true =>
      rw [mkL_t] at e3
      have e4 : S' = S2 ++ [.lst avs] ∧ r = .loc S2.length := by cases e3; exact ⟨rfl, rfl⟩
      obtain ⟨rfl, rfl⟩ := e4
      let Wf : Wd := { Wi.show_ W1.hid with n := Wi.n + 1, φ := fun i => if i = Wi.n then D else Wi.φ i }
      have φe : ∀ i, i < Wi.n → Wf.φ i = Wi.φ i := fun i hi => if_neg (Nat.ne_of_lt hi)
      have φD : Wf.φ Wi.n = D := if_pos rfl
      have Lo : Lw Wi Wf := ⟨Nat.le_succ _, φe, fun a u e q => ⟨e, fun z => q.1 (sub a z), fun i hi => by
        by_cases hin : i = Wi.n
        · rw [hin, φD]; intro z; exact q.1 (by rw [← z]; exact hDi)
        · have hi' : i < Wi.n := by have : i < Wi.n + 1 := hi; omega
          rw [φe i hi']; exact q.2 i hi'⟩, rfl, fun _ _ _ e => e⟩
      have Ro : Rep K Wf (S2 ++ [.lst avs]) := by
        refine ⟨by rw [List.length_append, Ri.len]; rfl, fun i j hi hj q => ?_, fun a q => ⟨(Ri.hid a (sub a q)).1, fun i hi => ?_⟩, fun i u q => ?_, fun a q => ?_⟩
        · have hi : i < Wi.n + 1 := hi
          have hj : j < Wi.n + 1 := hj
          by_cases h1 : i = Wi.n <;> by_cases h2 : j = Wi.n
          · omega
          · rw [h1, φD, φe j (by omega)] at q; exact absurd q.symm (hφ j (by omega))
          · rw [h2, φD, φe i (by omega)] at q; exact absurd q (hφ i (by omega))
          · rw [φe i (by omega), φe j (by omega)] at q; exact Ri.inj i j (by omega) (by omega) q
        · have hi : i < Wi.n + 1 := hi
          by_cases h1 : i = Wi.n
          · rw [h1, φD]; intro z; exact hDh (by rw [z]; exact q)
          · rw [φe i (by omega)]; exact (Ri.hid a (sub a q)).2 i (by omega)
        · by_cases hi : i < S2.length
          · rw [List.getElem?_append_left hi] at q
            rw [φe i (by rw [← Ri.len]; exact hi)]
            exact (Ri.obj i u q).mw Lo rfl
          · have hi' : i = S2.length := by
              have := (List.getElem?_eq_some_iff.mp q).1
              simp at this; omega
            subst hi'
            have eu : u = .lst avs := by simpa using q.symm
            subst eu
            rw [Ri.len, φD]
            exact ⟨acc, hd, ra.mw Lo⟩
        · obtain ⟨j, u, e1, e2, e3⟩ := Ri.lk a q
          have hj := (List.getElem?_eq_some_iff.mp e1).1
          exact ⟨j, u, by rw [List.getElem?_append_left hj]; exact e1, (φe j (by rw [← Ri.len]; exact hj)).trans e2, e3⟩
      have q := P Wf (.ref (Wf.φ Wi.n)) (L1.trans ((Li.trans Lo).le rfl ho)) Ro (by rw [Ri.len]; exact .loc (Nat.lt_succ_self _))
      rw [φD] at q
      exact q
end
end VI

set_option maxRecDepth 100000
set_option maxHeartbeats 2000000
/-! VI9: every expression of the text does what its twin does. -/
namespace VI
open PySem PySem.Spec PyProof.Rows L2 RZ

section
variable {P : Program} {w : World} {K : PySem.W.Frag} {mg : Str → Option Value} {base : Heap} {k : Nat} {N : List Str}
structure OkE (P : Program) (w : World) (K : PySem.W.Frag) (mg : Str → Option Value) (base : Heap) (k : Nat) (N : List Str) (a : E) : Prop where
  val : ∀ X sc e, GE P w K mg base k N X sc → Lk K mg (Fx P w K mg base k) (Go P w K mg base k) a → ce N a sc e = true → PE X e (T K (den a))
  tst : ∀ X sc e, GE P w K mg base k N X sc → Lk K mg (Fx P w K mg base k) (Go P w K mg base k) a → ce N a sc e = true → isIf e = false → PT X e (TB K fun ρ S => truD (den a ρ S))
  bo : ∀ X sc op vs p, GE P w K mg base k N X sc → Lk K mg (Fx P w K mg base k) (Go P w K mg base k) a → ce N a sc (.BoolOp op vs p) = true → PW X (.BoolOp op vs p) (TB K fun ρ S => truD (den a ρ S))
  args : ∀ X sc es, GE P w K mg base k N X sc → Lk K mg (Fx P w K mg base k) (Go P w K mg base k) a → ceL N a sc es = true → PA X es (TL K (denL a))
  fs : ∀ X sc es, GE P w K mg base k N X sc → Lk K mg (Fx P w K mg base k) (Go P w K mg base k) a → ceL N a sc es = true → PEs X es (denF a)
  it : ∀ X sc tg e, GE P w K mg base k N X sc → Lk K mg (Fx P w K mg base k) (Go P w K mg base k) a → ceI N a sc tg e = true → PI X tg e (TIt K (denI a))

theorem plT_ok {e : Expr} (h : plT e = true) (env : Env) : ∀ whole, isTrue e env whole = (do let v ← whole; standAt e.pos; holding [v] (truthy v)) := by
  intro whole
  cases e with
  | UnaryOp op x p => cases op <;> first | rfl | cases h
  | _ => first | rfl | cases h
theorem tst_plain {X : Cx} {e : Expr} {m : Ev → Store → Out AV} (h : PE X e (T X.K m)) (hp : plT e = true) : PT X e (TB X.K fun ρ S => truD (m ρ S)) :=
  (pt_truth h (plT_ok hp X.env)).w fun _ _ _ q => TB_tru q
/-- a form that is a value and no test of its own -/
theorem OkE.of {a : E} (hv : ∀ X sc e, GE P w K mg base k N X sc → Lk K mg (Fx P w K mg base k) (Go P w K mg base k) a → ce N a sc e = true → PE X e (T K (den a)))
    (hp : ∀ sc e, ce N a sc e = true → plT e = true) (ha : ∀ sc es, ceL N a sc es = false) (hi : ∀ sc tg e, ceI N a sc tg e = false) : OkE P w K mg base k N a where
  val := hv
  tst := fun X sc e g l c _ => by
    have h := hv X sc e g l c
    obtain ⟨rfl, rfl, rfl, rfl, rfl, rfl, -, -, -, -⟩ := g
    exact tst_plain h (hp sc e c)
  bo := fun X sc op vs p g l c => by have := hp sc _ c; cases this
  args := fun X sc es g l c => by rw [ha] at c; cases c
  fs := fun X sc es g l c => by rw [ha] at c; cases c
  it := fun X sc tg e g l c => by rw [hi] at c; cases c
theorem ceL_ho {l : E} {sc : Scope} {es : List Expr} {env : Env} (h : ceL N l sc es = true) : ∀ e r, es = e :: r → odd e = false ∧ (starEach r env).any (·.1) = false := by
  intro e r he
  subst he
  cases l with
  | cons a b =>
    simp only [ceL, Bool.and_eq_true, Bool.not_eq_true'] at h
    exact ⟨h.1.2, star_plain h.2⟩
  | _ => cases h
theorem ceL_h0 {l : E} {sc : Scope} {es : List Expr} (h : ceL N l sc es = true) : es = [] → denL l = fun _ S => .ok [] S := by
  intro he
  subst he
  cases l with
  | nil => funext ρ S; rfl
  | cons a b => cases h
  | _ => cases h
theorem den_v (i : Nat) : den (.v i) = fun ρ S => match ρ[i]? with
    | some (some a) => .ok a S
    | _ => .no := rfl
/-- what a comprehension is made of -/
theorem comp_pk {m : Bool} {own : List Nat} {t : Tg} {it e1 cd : E} (ihi : OkE P w K mg base k N it) (ihe : OkE P w K mg base k N e1) (ihc : OkE P w K mg base k N cd) {X : Cx} {sc : Scope} {e : Expr} (g : GE P w K mg base k N X sc) (l : Lk K mg (Fx P w K mg base k) (Go P w K mg base k) (.comp m own t it e1 cd)) (h : ce N (.comp m own t it e1 cd) sc e = true) :
    ∃ elt tg iter ifs scope p, ∃ (own' : List (Str × Nat)) (g' : TG) (tt : TT), e = .ListComp elt [⟨tg, iter, ifs, 0⟩] scope p ∧ X.calm = true ∧ X.N.Nodup ∧ PI X tg iter (TIt K (denI it)) ∧ BlkOk X.N X.env.scope scope own' ∧
      (∀ s H C cl fp, PG (X.blk s H scope (compEnvC scope cl C X.env) fp) tg g') ∧ (∀ s H C cl fp, PTs (X.blk s H scope (compEnvC scope cl C X.env) fp) ifs tt) ∧ (∀ s H C cl fp, PE (X.blk s H scope (compEnvC scope cl C X.env) fp) elt (T K (den e1))) ∧
      (∀ x, foldedSetIterable iter X.env x = pure x) ∧ ∀ σ H Q, T K (den (.comp m own t it e1 cd)) σ H Q → tLc (TIt K (denI it)) g' tt (T K (den e1)) (own'.map (·.2)) σ H Q := by
  have h' : ∃ elt tg iter ifs scope p, e = .ListComp elt [⟨tg, iter, ifs, 0⟩] scope p ∧ blkC N sc scope (own.map fun i => (N.getD i ⟨#[]⟩, i)) = true ∧ ceI N it sc tg iter = true ∧ odd iter = false ∧ (t.slots.all fun i => own.contains i) = true ∧
      ceT N (relS scope sc) (fun x => scope.names.lookup x == some .cell) t tg = true ∧ ce N e1 (relS scope sc) elt = true ∧ ((ifs = [] ∧ cd = .nop) ∨ ∃ c, ifs = [c] ∧ cd.isNop = false ∧ ce N cd (relS scope sc) c = true ∧ isIf c = false) := by
    simp only [ce] at h
    split at h
    · rename_i elt tg iter ifs ay scope p
      simp only [Bool.and_eq_true, Bool.not_eq_true', decide_eq_true_eq] at h
      obtain ⟨⟨⟨⟨⟨⟨⟨h1, h2⟩, h3⟩, h4⟩, h5⟩, h6⟩, h7⟩, h8⟩ := h
      subst h1
      refine ⟨elt, tg, iter, ifs, scope, p, rfl, h2, h3, h4, h5, h6, h7, ?_⟩
      cases ifs with
      | nil => exact .inl ⟨rfl, by cases cd <;> first | rfl | cases h8⟩
      | cons c r => cases r with
        | nil =>
          simp only [Bool.and_eq_true, Bool.not_eq_true'] at h8
          exact .inr ⟨c, rfl, h8.1.1, h8.1.2, h8.2⟩
        | cons _ _ => cases h8
    · cases h
  obtain ⟨elt, tg, iter, ifs, scope, p, rfl, h2, h3, h4, h5, h6, h7, h8⟩ := h'
  have kI := ihi.it X sc tg iter g l.1 h3
  have hN := g.hN
  have nd := g.nd
  have calm := g.calm
  have blk := fun s H C cl fp => g.blk s H scope C cl fp
  have ok : BlkOk X.N X.env.scope scope (own.map fun i => (N.getD i ⟨#[]⟩, i)) := by rw [hN, g.scope]; exact blkOk_by h2
  have own2 : (own.map fun i => (N.getD i ⟨#[]⟩, i)).map (·.2) = own := by rw [List.map_map]; exact List.map_id' own
  have hsl : ∀ i, i ∈ t.slots → i ∈ (own.map fun i => (N.getD i ⟨#[]⟩, i)).map (·.2) := fun i hi => by
    rw [own2]
    have := List.all_eq_true.mp h5 i hi
    simpa using this
  have kE : ∀ s H C cl fp, PE (X.blk s H scope (compEnvC scope cl C X.env) fp) elt (T K (den e1)) := fun s H C cl fp => ihe.val _ _ elt (blk s H C cl fp) l.2.1 h7
  have kT : ∀ s H C cl fp, PG (X.blk s H scope (compEnvC scope cl C X.env) fp) tg (gOf K t) := fun s H C cl fp => by
    have q := pg_V (X := X.blk s H scope (compEnvC scope cl C X.env) fp) calm (by rw [← hN] at nd; exact nd) (blk s H C cl fp).scope rfl t tg (by show ceT X.N _ _ t tg = true; rw [hN]; exact h6)
    have hK : X.K = K := g.hK
    rw [show (X.blk s H scope (compEnvC scope cl C X.env) fp).K = K from hK] at q
    exact q
  let mc : Ev → Store → Out AV := cdD cd.isNop (den cd)
  have kC : ∃ tt : TT, (∀ s H C cl fp, PTs (X.blk s H scope (compEnvC scope cl C X.env) fp) ifs tt) ∧ ∀ σ H Q, TB K mc σ H Q → tt σ H Q := by
    rcases h8 with ⟨rfl, rfl⟩ | ⟨c, rfl, hn, h8, h9⟩
    · refine ⟨tYes, fun _ _ _ _ _ => pts_nil, fun σ H Q q => ?_⟩
      obtain ⟨W, ρ, S, st, b, S', e, P⟩ := q
      cases e
      have := P W (Le.refl W) st.rep
      rw [st.hH] at this
      exact this
    · have em : mc = fun ρ S => truD (den cd ρ S) := by show cdD cd.isNop (den cd) = _; rw [hn]; rfl
      rw [em]
      exact ⟨_, fun s H C cl fp => pts_one (ihc.tst _ _ c (blk s H C cl fp) l.2.2 h8 h9), fun _ _ _ q => q⟩
  obtain ⟨tt, kC1, kC2⟩ := kC
  refine ⟨elt, tg, iter, ifs, scope, p, _, gOf K t, tt, rfl, calm, by rw [hN]; exact nd, kI, ok, kT, kC1, kE, odd_fold h4, fun σ H Q q => ?_⟩
  refine comp_ok (m := m) (mc := mc) (me := den e1) hsl kC2 (fun _ _ _ q => q) ?_
  rw [own2]
  exact q
theorem okE : ∀ a : E, OkE P w K mg base k N a := by
  intro a
  induction a with
  | nop => exact .of (fun _ _ _ _ _ h => by cases h) (fun _ _ h => by cases h) (fun _ _ => rfl) (fun _ _ _ => rfl)
  | nil =>
    refine ⟨fun _ _ _ _ _ h => (by cases h), fun _ _ _ _ _ h => (by cases h), fun _ _ _ _ _ _ _ h => (by cases h), fun X sc es g l h => ?_, fun X sc es g l h => ?_, fun _ _ _ _ _ _ h => (by cases h)⟩
    · cases es with
      | nil => obtain ⟨rfl, rfl, rfl, rfl, rfl, -, -, -, -, -⟩ := g; exact pa_nilV
      | cons _ _ => cases h
    · cases es with
      | nil => exact .nil
      | cons _ _ => cases h
  | cons a r iha ihr =>
    refine ⟨fun _ _ _ _ _ h => (by cases h), fun _ _ _ _ _ h => (by cases h), fun _ _ _ _ _ _ _ h => (by cases h), fun X sc es g l h => ?_, fun X sc es g l h => ?_, fun _ _ _ _ _ _ h => (by cases h)⟩
    · cases es with
      | nil => cases h
      | cons e es =>
        simp only [ceL, Bool.and_eq_true, Bool.not_eq_true'] at h
        have h1 := iha.val X sc e g l.1 h.1.1
        have h2 := ihr.args X sc es g l.2 h.2
        obtain ⟨rfl, rfl, rfl, rfl, rfl, -, -, -, -, -⟩ := g
        exact pa_consV h1 h2 h.1.2
    · cases es with
      | nil => cases h
      | cons e es =>
        simp only [ceL, Bool.and_eq_true, Bool.not_eq_true'] at h
        have h1 := iha.val X sc e g l.1 h.1.1
        have h2 := ihr.fs X sc es g l.2 h.2
        obtain ⟨rfl, rfl, rfl, rfl, rfl, -, -, -, -, -⟩ := g
        exact .cons h1 h.1.2 h2
  | ext F a iha =>
    refine .of (fun X sc e g l h => ?_) (fun sc e h => ?_) (fun _ _ => rfl) (fun _ _ _ => rfl)
    · simp only [ce, Bool.and_eq_true] at h
      have h2 := h.2
      cases em : F.mat sc e with
      | none => rw [em] at h2; cases h2
      | some es =>
        rw [em] at h2
        exact l.1 N X sc e es _ g em (iha.fs X sc es g l.2 h2)
    · simp only [ce, Bool.and_eq_true] at h
      exact h.1.1
  | iext F a iha =>
    refine ⟨fun _ _ _ _ _ h => (by cases h), fun _ _ _ _ _ h => (by cases h), fun _ _ _ _ _ _ _ h => (by cases h), fun _ _ _ _ _ h => (by cases h), fun _ _ _ _ _ h => (by cases h), fun X sc tg e g l h => ?_⟩
    have h : (match F.mat sc tg e with
      | some es => ceL N a sc es
      | none => false) = true := h
    cases em : F.mat sc tg e with
    | none => rw [em] at h; cases h
    | some es =>
      rw [em] at h
      exact l.1 N X sc tg e es _ g em (iha.fs X sc es g l.2 h)
  | v i =>
    refine .of (fun X sc e g l h => ?_) (fun sc e h => by cases e <;> first | rfl | cases h) (fun _ _ => rfl) (fun _ _ _ => rfl)
    cases e with
    | Name x p =>
      simp only [ce, Bool.and_eq_true, Bool.not_eq_true', decide_eq_true_eq] at h
      obtain ⟨⟨⟨h1, h2⟩, h3⟩, h4⟩ := h
      have hv := g.vis h2
      have hN := g.hN
      obtain ⟨rfl, rfl, rfl, rfl, rfl, -, -, -, -, -⟩ := g
      refine (pe_var (i := i) (by rw [hN]; exact h1) hv h3 h4).w fun σ H Q q => ?_
      obtain ⟨W, ρ, S, st, r, S', e, P⟩ := q
      rw [den_v] at e
      dsimp only at e
      split at e
      · rename_i a ea
        cases e
        obtain ⟨y, e1, e2⟩ := st.er.at_ i _ ea
        refine ⟨y, e1, ?_⟩
        rw [← st.hH]
        exact P W y (Le.refl W) st.rep e2
      · cases e
    | _ => cases h
  | c a =>
    refine .of (fun X sc e g l h => ?_) (fun sc e h => by cases e <;> first | rfl | cases h) (fun _ _ => rfl) (fun _ _ _ => rfl)
    cases e with
    | Constant cc kk p =>
      obtain ⟨rfl, rfl, rfl, rfl, rfl, -, -, -, -, -⟩ := g
      have h : cstB cc a = true := h
      have go : ∀ {v : V}, PE X (.Constant cc kk p) (tC v) → (∀ W, RV X.K W a v) → PE X (.Constant cc kk p) (T X.K (den (.c a))) := fun {v} hp hr => hp.w fun σ H Q q => by
        obtain ⟨W, ρ, S, st, r, S', e, P⟩ := q
        cases e
        show Q v H
        rw [← st.hH]
        exact P W v (Le.refl W) st.rep (hr W)
      cases cc with
      | int i => cases a with
        | int j =>
          have : i = j := by simpa [cstB] using h
          subst this
          exact go pe_int fun W => .int i
        | _ => cases h
      | bool i => cases a with
        | bl j =>
          have : i = j := by simpa [cstB] using h
          subst this
          exact go pe_bl fun W => .bl i
        | _ => cases h
      | none => cases a with
        | non => exact go pe_non fun W => .non
        | _ => cases h
      | str x => cases a with
        | str y =>
          have : x = y := by simpa [cstB] using h
          subst this
          exact go pe_str fun W => .str x
        | _ => cases h
      | _ => cases h
    | _ => cases h
  | g x a =>
    refine .of (fun X sc e g l h => ?_) (fun sc e h => by cases e <;> first | rfl | cases h) (fun _ _ => rfl) (fun _ _ _ => rfl)
    cases e with
    | Name y p =>
      simp only [ce, Bool.and_eq_true, decide_eq_true_eq] at h
      obtain ⟨rfl, h2⟩ := h
      obtain ⟨g1, g2⟩ := g.gl h2
      obtain ⟨rfl, rfl, rfl, rfl, rfl, -, -, -, -, -⟩ := g
      obtain ⟨u, v, hm, hr, hv⟩ := l
      refine (pe_glob g1 hm hr g2).w fun σ H Q q => ?_
      obtain ⟨W, ρ, S, st, r, S', e, P⟩ := q
      cases e
      show Q v H
      rw [← st.hH]
      exact P W v (Le.refl W) st.rep (hv W)
    | _ => cases h
  | bt n =>
    refine .of (fun X sc e g l h => ?_) (fun sc e h => by cases e <;> first | rfl | cases h) (fun _ _ => rfl) (fun _ _ _ => rfl)
    cases e with
    | Name y p =>
      simp only [ce, Bool.and_eq_true, decide_eq_true_eq] at h
      obtain ⟨⟨rfl, h2⟩, h3⟩ := h
      obtain ⟨g1, g2⟩ := g.gl h2
      obtain ⟨rfl, rfl, rfl, rfl, rfl, -, -, -, -, -⟩ := g
      obtain ⟨b1, b2⟩ := boot_ty h3
      refine (pe_bltn (v := .ty n) g1 l b1 rfl b2 g2).w fun σ H Q q => ?_
      obtain ⟨W, ρ, S, st, r, S', e, P⟩ := q
      cases e
      show Q _ H
      rw [← st.hH]
      exact P W _ (Le.refl W) st.rep (.ty n)
    | _ => cases h
  | bin m o a b iha ihb =>
    refine .of (fun X sc e g l h => ?_) (fun sc e h => by cases e <;> first | rfl | cases h) (fun _ _ => rfl) (fun _ _ _ => rfl)
    cases e with
    | BinOp x op y p =>
      simp only [ce, Bool.and_eq_true, decide_eq_true_eq] at h
      obtain ⟨⟨⟨rfl, h1⟩, h2⟩, h3⟩ := h
      have k1 := iha.val X sc x g l.1 h2
      have k2 := ihb.val X sc y g l.2 h3
      obtain ⟨rfl, rfl, rfl, rfl, rfl, -, -, -, -, -⟩ := g
      exact pe_binV h1 k1 k2
    | _ => cases h
  | neg a iha =>
    refine .of (fun X sc e g l h => ?_) (fun sc e h => by cases e <;> first | rfl | cases h | (rename_i op _ _; cases op <;> first | rfl | cases h)) (fun _ _ => rfl) (fun _ _ _ => rfl)
    cases e with
    | UnaryOp op x p =>
      cases op with
      | USub =>
        have k1 := iha.val X sc x g l h
        obtain ⟨rfl, rfl, rfl, rfl, rfl, -, -, -, -, -⟩ := g
        exact pe_negV k1
      | _ => cases h
    | _ => cases h
  | not a iha =>
    refine ⟨fun X sc e g l h => ?_, fun X sc e g l h _ => ?_, fun X sc op vs p g l h => (by cases h), fun _ _ _ _ _ h => (by cases h), fun _ _ _ _ _ h => (by cases h), fun _ _ _ _ _ _ h => (by cases h)⟩
    · cases e with
      | UnaryOp op x p =>
        cases op with
        | Not =>
          simp only [ce, Bool.and_eq_true, Bool.not_eq_true'] at h
          have k1 := iha.val X sc x g l h.1
          obtain ⟨rfl, rfl, rfl, rfl, rfl, -, -, -, -, -⟩ := g
          exact pe_notV k1
        | _ => cases h
      | _ => cases h
    · cases e with
      | UnaryOp op x p =>
        cases op with
        | Not =>
          simp only [ce, Bool.and_eq_true, Bool.not_eq_true'] at h
          have k1 := iha.tst X sc x g l h.1 h.2
          obtain ⟨rfl, rfl, rfl, rfl, rfl, -, -, -, -, -⟩ := g
          exact (pt_not k1).w fun _ _ _ q => tru_not q
        | _ => cases h
      | _ => cases h
  | cmp o a b iha ihb =>
    have key : ∀ X sc e, GE P w K mg base k N X sc → Lk K mg (Fx P w K mg base k) (Go P w K mg base k) (.cmp o a b) → ce N (.cmp o a b) sc e = true → PE X e (T K (den (.cmp o a b))) ∧ PT X e (TB K fun ρ S => truD (den (.cmp o a b) ρ S)) := fun X sc e g l h => by
      have h' : ∃ x op y p, e = .Compare x [op] [y] p ∧ op = opC o ∧ ce N a sc x = true ∧ ce N b sc y = true ∧ odd y = false := by
        cases e with
        | Compare x ops ys p =>
          cases ops with
          | nil => cases h
          | cons op ops => cases ops with
            | cons _ _ => cases h
            | nil => cases ys with
              | nil => cases h
              | cons y ys => cases ys with
                | cons _ _ => cases h
                | nil =>
                  simp only [ce, Bool.and_eq_true, Bool.not_eq_true', decide_eq_true_eq] at h
                  exact ⟨x, op, y, p, rfl, h.1.1.1, h.1.1.2, h.1.2, h.2⟩
        | _ => cases h
      obtain ⟨x, op, y, p, rfl, rfl, h1, h2, h3⟩ := h'
      have k1 := iha.val X sc x g l.1 h1
      have k2 := ihb.val X sc y g l.2 h2
      have hu := g.hu
      obtain ⟨rfl, rfl, rfl, rfl, rfl, -, -, -, -, -⟩ := g
      exact ⟨pe_cmpV hu k1 k2 (odd_marks h3 _), pt_cmpV hu k1 k2 (odd_marks h3 _)⟩
    exact ⟨fun X sc e g l h => (key X sc e g l h).1, fun X sc e g l h _ => (key X sc e g l h).2, fun X sc op vs p g l h => (by cases h), fun _ _ _ _ _ h => (by cases h), fun _ _ _ _ _ h => (by cases h), fun _ _ _ _ _ _ h => (by cases h)⟩
  | cmx F a b iha ihb =>
    have key : ∀ X sc e, GE P w K mg base k N X sc → Lk K mg (Fx P w K mg base k) (Go P w K mg base k) (.cmx F a b) → ce N (.cmx F a b) sc e = true → PE X e (T K (den (.cmx F a b))) ∧ PT X e (TB K fun ρ S => truD (den (.cmx F a b) ρ S)) := fun X sc e g l h => by
      have h' : ∃ x op y p, e = .Compare x [op] [y] p ∧ op = opC F.o ∧ ce N a sc x = true ∧ ce N b sc y = true ∧ odd y = false := by
        cases e with
        | Compare x ops ys p =>
          cases ops with
          | nil => cases h
          | cons op ops => cases ops with
            | cons _ _ => cases h
            | nil => cases ys with
              | nil => cases h
              | cons y ys => cases ys with
                | cons _ _ => cases h
                | nil =>
                  simp only [ce, Bool.and_eq_true, Bool.not_eq_true', decide_eq_true_eq] at h
                  exact ⟨x, op, y, p, rfl, h.1.1.1, h.1.1.2, h.1.2, h.2⟩
        | _ => cases h
      obtain ⟨x, op, y, p, rfl, rfl, h1, h2, h3⟩ := h'
      have k1 := iha.val X sc x g l.2.1 h1
      have k2 := ihb.val X sc y g l.2.2 h2
      have hf := l.1.1 N X sc g
      have hf2 := l.1.2
      obtain ⟨rfl, rfl, rfl, rfl, rfl, -, -, -, -, -⟩ := g
      exact ⟨pe_cmxV hf k1 k2 (odd_marks h3 _), pt_cmxV hf hf2 k1 k2 (odd_marks h3 _)⟩
    exact ⟨fun X sc e g l h => (key X sc e g l h).1, fun X sc e g l h _ => (key X sc e g l h).2, fun X sc op vs p g l h => (by cases h), fun _ _ _ _ _ h => (by cases h), fun _ _ _ _ _ h => (by cases h), fun _ _ _ _ _ _ h => (by cases h)⟩
  | chain o o' a b c iha ihb ihc =>
    have key : ∀ X sc e, GE P w K mg base k N X sc → Lk K mg (Fx P w K mg base k) (Go P w K mg base k) (.chain o o' a b c) → ce N (.chain o o' a b c) sc e = true → PE X e (T K (den (.chain o o' a b c))) ∧ PT X e (TB K fun ρ S => truD (den (.chain o o' a b c) ρ S)) := fun X sc e g l h => by
      have h' : ∃ x op op' y z p, e = .Compare x [op, op'] [y, z] p ∧ op = opC o ∧ op' = opC o' ∧ ce N a sc x = true ∧ ce N b sc y = true ∧ ce N c sc z = true ∧ odd z = false := by
        cases e with
        | Compare x ops ys p =>
          cases ops with
          | nil => cases h
          | cons op ops => cases ops with
            | nil => cases h
            | cons op' ops => cases ops with
              | cons _ _ => cases h
              | nil => cases ys with
                | nil => cases h
                | cons y ys => cases ys with
                  | nil => cases h
                  | cons z ys => cases ys with
                    | cons _ _ => cases h
                    | nil =>
                      simp only [ce, Bool.and_eq_true, Bool.not_eq_true', decide_eq_true_eq] at h
                      exact ⟨x, op, op', y, z, p, rfl, h.1.1.1.1.1, h.1.1.1.1.2, h.1.1.1.2, h.1.1.2, h.1.2, h.2⟩
        | _ => cases h
      obtain ⟨x, op, op', y, z, p, rfl, rfl, rfl, h1, h2, h3, h4⟩ := h'
      have k1 := iha.val X sc x g l.1 h1
      have k2 := ihb.val X sc y g l.2.1 h2
      have k3 := ihc.val X sc z g l.2.2 h3
      have hu := g.hu
      obtain ⟨rfl, rfl, rfl, rfl, rfl, -, -, -, -, -⟩ := g
      exact ⟨pe_chainV hu k1 k2 k3 (odd_marks h4 _), pt_chainV hu k1 k2 k3 (odd_marks h4 _)⟩
    exact ⟨fun X sc e g l h => (key X sc e g l h).1, fun X sc e g l h _ => (key X sc e g l h).2, fun X sc op vs p g l h => (by cases h), fun _ _ _ _ _ h => (by cases h), fun _ _ _ _ _ h => (by cases h), fun _ _ _ _ _ _ h => (by cases h)⟩
  | and a b iha ihb =>
    have key : ∀ X sc e, GE P w K mg base k N X sc → Lk K mg (Fx P w K mg base k) (Go P w K mg base k) (.and a b) → ce N (.and a b) sc e = true → PE X e (T K (den (.and a b))) ∧ PW X e (TB K fun ρ S => truD (den (.and a b) ρ S)) := fun X sc e g l h => by
      have h' : ∃ x y r p, e = .BoolOp .And (x :: y :: r) p ∧ ce N a sc x = true ∧ isIf x = false ∧ ((r = [] ∧ ce N b sc y = true ∧ isIf y = false) ∨ ce N b sc (.BoolOp .And (y :: r) p) = true) := by
        cases e with
        | BoolOp op vs p =>
          cases op with
          | And => cases vs with
            | nil => cases h
            | cons x vs => cases vs with
              | nil => cases h
              | cons y r =>
                simp only [ce, Bool.and_eq_true, Bool.not_eq_true'] at h
                cases r with
                | nil => exact ⟨x, y, [], p, rfl, h.1.1, h.1.2, .inl ⟨rfl, by simpa using h.2⟩⟩
                | cons z r => exact ⟨x, y, z :: r, p, rfl, h.1.1, h.1.2, .inr h.2⟩
          | _ => cases h
        | _ => cases h
      obtain ⟨x, y, r, p, rfl, h1, h2, h3⟩ := h'
      have k1 := iha.val X sc x g l.1 h1
      have k2 := iha.tst X sc x g l.1 h1 h2
      have k3 : PE X (.BoolOp .And (y :: r) p) (T K (den b)) ∧ PW X (.BoolOp .And (y :: r) p) (TB K fun ρ S => truD (den b ρ S)) := by
        rcases h3 with ⟨rfl, h3, h4⟩ | h3
        · exact ⟨pe_one (ihb.val X sc y g l.2 h3), pw_and1 (ihb.tst X sc y g l.2 h3 h4)⟩
        · exact ⟨ihb.val X sc _ g l.2 h3, ihb.bo X sc _ _ _ g l.2 h3⟩
      obtain ⟨rfl, rfl, rfl, rfl, rfl, -, -, -, -, -⟩ := g
      exact ⟨(pe_andT k1 k3.1).w fun _ _ _ q => T_and q, (pw_and k2 k3.2).w fun _ _ _ q => tru_and q⟩
    exact ⟨fun X sc e g l h => (key X sc e g l h).1, fun X sc e g l h _ => (key X sc e g l h).2.pt, fun X sc op vs p g l h => (key X sc _ g l h).2, fun _ _ _ _ _ h => (by cases h), fun _ _ _ _ _ h => (by cases h), fun _ _ _ _ _ _ h => (by cases h)⟩
  | or a b iha ihb =>
    have key : ∀ X sc e, GE P w K mg base k N X sc → Lk K mg (Fx P w K mg base k) (Go P w K mg base k) (.or a b) → ce N (.or a b) sc e = true → PE X e (T K (den (.or a b))) ∧ PW X e (TB K fun ρ S => truD (den (.or a b) ρ S)) := fun X sc e g l h => by
      have h' : ∃ x y r p, e = .BoolOp .Or (x :: y :: r) p ∧ ce N a sc x = true ∧ isIf x = false ∧ ((r = [] ∧ ce N b sc y = true ∧ isIf y = false) ∨ ce N b sc (.BoolOp .Or (y :: r) p) = true) := by
        cases e with
        | BoolOp op vs p =>
          cases op with
          | Or => cases vs with
            | nil => cases h
            | cons x vs => cases vs with
              | nil => cases h
              | cons y r =>
                simp only [ce, Bool.and_eq_true, Bool.not_eq_true'] at h
                cases r with
                | nil => exact ⟨x, y, [], p, rfl, h.1.1, h.1.2, .inl ⟨rfl, by simpa using h.2⟩⟩
                | cons z r => exact ⟨x, y, z :: r, p, rfl, h.1.1, h.1.2, .inr h.2⟩
          | _ => cases h
        | _ => cases h
      obtain ⟨x, y, r, p, rfl, h1, h2, h3⟩ := h'
      have k1 := iha.val X sc x g l.1 h1
      have k2 := iha.tst X sc x g l.1 h1 h2
      have k3 : PE X (.BoolOp .Or (y :: r) p) (T K (den b)) ∧ PW X (.BoolOp .Or (y :: r) p) (TB K fun ρ S => truD (den b ρ S)) := by
        rcases h3 with ⟨rfl, h3, h4⟩ | h3
        · exact ⟨pe_one (ihb.val X sc y g l.2 h3), pw_or1 (ihb.tst X sc y g l.2 h3 h4)⟩
        · exact ⟨ihb.val X sc _ g l.2 h3, ihb.bo X sc _ _ _ g l.2 h3⟩
      obtain ⟨rfl, rfl, rfl, rfl, rfl, -, -, -, -, -⟩ := g
      exact ⟨(pe_orT k1 k3.1).w fun _ _ _ q => T_or q, (pw_or k2 k3.2).w fun _ _ _ q => tru_or q⟩
    exact ⟨fun X sc e g l h => (key X sc e g l h).1, fun X sc e g l h _ => (key X sc e g l h).2.pt, fun X sc op vs p g l h => (key X sc _ g l h).2, fun _ _ _ _ _ h => (by cases h), fun _ _ _ _ _ h => (by cases h), fun _ _ _ _ _ _ h => (by cases h)⟩
  | ite c a b ihc iha ihb =>
    refine ⟨fun X sc e g l h => ?_, fun X sc e g l h hi => ?_, fun X sc op vs p g l h => (by cases h), fun _ _ _ _ _ h => (by cases h), fun _ _ _ _ _ h => (by cases h), fun _ _ _ _ _ _ h => (by cases h)⟩
    · cases e with
      | IfExp t x y p =>
        simp only [ce, Bool.and_eq_true, Bool.not_eq_true'] at h
        have k1 := ihc.tst X sc t g l.1 h.1.1.1 h.1.1.2
        have k2 := iha.val X sc x g l.2.1 h.1.2
        have k3 := ihb.val X sc y g l.2.2 h.2
        obtain ⟨rfl, rfl, rfl, rfl, rfl, -, -, -, -, -⟩ := g
        exact (pe_ifExp k1 k2 k3).w fun _ _ _ q => T_ite q
      | _ => cases h
    · cases e with
      | IfExp t x y p => cases hi
      | _ => cases h
  | tup a iha =>
    refine .of (fun X sc e g l h => ?_) (fun sc e h => by cases e <;> first | rfl | cases h) (fun _ _ => rfl) (fun _ _ _ => rfl)
    cases e with
    | Tuple es kk p =>
      have k1 := iha.args X sc es g l h
      obtain ⟨rfl, rfl, rfl, rfl, rfl, -, -, -, -, -⟩ := g
      exact pe_tupV k1
    | _ => cases h
  | lst m a iha =>
    refine .of (fun X sc e g l h => ?_) (fun sc e h => by cases e <;> first | rfl | cases h) (fun _ _ => rfl) (fun _ _ _ => rfl)
    cases e with
    | List es p =>
      have k1 := iha.args X sc es g l h
      obtain ⟨rfl, rfl, rfl, rfl, rfl, -, -, -, -, -⟩ := g
      exact pe_lstV k1
    | _ => cases h
  | ix a b iha ihb =>
    refine .of (fun X sc e g l h => ?_) (fun sc e h => by cases e <;> first | rfl | cases h) (fun _ _ => rfl) (fun _ _ _ => rfl)
    cases e with
    | Subscript x y p =>
      simp only [ce, Bool.and_eq_true, Bool.not_eq_true'] at h
      have k1 := iha.val X sc x g l.1 h.1.1
      have k2 := ihb.val X sc y g l.2 h.1.2
      have hu := g.hu
      obtain ⟨rfl, rfl, rfl, rfl, rfl, -, -, -, -, -⟩ := g
      exact pe_ixV (by omega) k1 k2 (odd_ix h.2)
    | _ => cases h
  | sl m a lo hi iha ihl ihh =>
    refine .of (fun X sc e g l h => ?_) (fun sc e h => by cases e <;> first | rfl | cases h) (fun _ _ => rfl) (fun _ _ _ => rfl)
    have h' : ∃ x lo' hi' p1 p, e = .Subscript x (.Slice lo' hi' none p1) p ∧ ce N a sc x = true ∧ ((lo' = none ∧ lo = .nop) ∨ ∃ z, lo' = some z ∧ lo.isNop = false ∧ ce N lo sc z = true) ∧ ((hi' = none ∧ hi = .nop) ∨ ∃ z, hi' = some z ∧ hi.isNop = false ∧ ce N hi sc z = true) := by
      cases e with
      | Subscript x y p =>
        cases y with
        | Slice lo' hi' st p1 =>
          cases st with
          | some _ => cases h
          | none =>
            simp only [ce, Bool.and_eq_true] at h
            have nn : ∀ {z : E}, z.isNop = true → z = .nop := fun {z} hz => by cases z <;> first | rfl | cases hz
            refine ⟨x, lo', hi', p1, p, rfl, h.1.1, ?_, ?_⟩
            · cases lo' with
              | none => exact .inl ⟨rfl, nn h.1.2⟩
              | some z => exact .inr ⟨z, rfl, by simpa using h.1.2⟩
            · cases hi' with
              | none => exact .inl ⟨rfl, nn h.2⟩
              | some z => exact .inr ⟨z, rfl, by simpa using h.2⟩
        | _ => cases h
      | _ => cases h
    obtain ⟨x, lo', hi', p1, p, rfl, h1, h2, h3⟩ := h'
    have k1 := iha.val X sc x g l.1 h1
    have k2 : PO X lo' (TOd K fun ρ S => prt lo.isNop (den lo ρ S)) := by
      rcases h2 with ⟨rfl, rfl⟩ | ⟨z, rfl, hz, h2⟩
      · obtain ⟨rfl, rfl, rfl, rfl, rfl, -, -, -, -, -⟩ := g
        exact po_noneV
      · have q := ihl.val X sc z g l.2.1 h2
        rw [hz]
        obtain ⟨rfl, rfl, rfl, rfl, rfl, -, -, -, -, -⟩ := g
        exact po_someV q
    have k3 : PO X hi' (TOd K fun ρ S => prt hi.isNop (den hi ρ S)) := by
      rcases h3 with ⟨rfl, rfl⟩ | ⟨z, rfl, hz, h3⟩
      · obtain ⟨rfl, rfl, rfl, rfl, rfl, -, -, -, -, -⟩ := g
        exact po_noneV
      · have q := ihh.val X sc z g l.2.2 h3
        rw [hz]
        obtain ⟨rfl, rfl, rfl, rfl, rfl, -, -, -, -, -⟩ := g
        exact po_someV q
    obtain ⟨rfl, rfl, rfl, rfl, rfl, -, -, -, -, -⟩ := g
    exact pe_slV k1 k2 k3
  | rev m a iha =>
    refine .of (fun X sc e g l h => ?_) (fun sc e h => by cases e <;> first | rfl | cases h) (fun _ _ => rfl) (fun _ _ _ => rfl)
    have h' : ∃ x kk p1 p2 p3 p, e = .Subscript x (.Slice none none (some (.UnaryOp .USub (.Constant (.int 1) kk p1) p2)) p3) p ∧ ce N a sc x = true := by
      simp only [ce] at h
      split at h
      · exact ⟨_, _, _, _, _, _, rfl, h⟩
      · cases h
    obtain ⟨x, kk, p1, p2, p3, p, rfl, h1⟩ := h'
    have k1 := iha.val X sc x g l h1
    obtain ⟨rfl, rfl, rfl, rfl, rfl, -, -, -, -, -⟩ := g
    exact pe_revV k1
  | lrg2 m a b iha ihb =>
    refine .of (fun X sc e g l h => ?_) (fun sc e h => by cases e <;> first | rfl | cases h) (fun _ _ => rfl) (fun _ _ _ => rfl)
    have h' : ∃ lx p1 rx p2 x y p3 p, e = .Call (.Name lx p1) [.Call (.Name rx p2) [x, y] [] p3] [] p ∧ lx = Str.ofString "list" ∧ rx = Str.ofString "range" ∧ glB sc lx = true ∧ glB sc rx = true ∧ ce N a sc x = true ∧ odd x = false ∧ ce N b sc y = true ∧ odd y = false := by
      simp only [ce] at h
      split at h
      · simp only [Bool.and_eq_true, Bool.not_eq_true', decide_eq_true_eq] at h
        exact ⟨_, _, _, _, _, _, _, _, rfl, h.1.1.1.1.1.1.1, h.1.1.1.1.1.1.2, h.1.1.1.1.1.2, h.1.1.1.1.2, h.1.1.1.2, h.1.1.2, h.1.2, h.2⟩
      · cases h
    obtain ⟨lx, p1, rx, p2, x, y, p3, p, rfl, e1, e2, g1, g2, h1, h2, h3, h4⟩ := h'
    have k1 := iha.val X sc x g l.2.2.1 h1
    have k2 := ihb.val X sc y g l.2.2.2 h3
    have q1 := g.gl g1
    have q2 := g.gl g2
    have hc := g.calm
    obtain ⟨rfl, rfl, rfl, rfl, rfl, -, -, -, -, -⟩ := g
    exact pe_lrg2V e1 e2 hc q1.1 l.1 q2.1 l.2.1 k1 h2 k2 h4
  | lrg3 m a b c iha ihb ihc =>
    refine .of (fun X sc e g l h => ?_) (fun sc e h => by cases e <;> first | rfl | cases h) (fun _ _ => rfl) (fun _ _ _ => rfl)
    have h' : ∃ lx p1 rx p2 x y z p3 p, e = .Call (.Name lx p1) [.Call (.Name rx p2) [x, y, z] [] p3] [] p ∧ lx = Str.ofString "list" ∧ rx = Str.ofString "range" ∧ glB sc lx = true ∧ glB sc rx = true ∧ ce N a sc x = true ∧ odd x = false ∧ ce N b sc y = true ∧ odd y = false ∧ ce N c sc z = true ∧ odd z = false := by
      simp only [ce] at h
      split at h
      · simp only [Bool.and_eq_true, Bool.not_eq_true', decide_eq_true_eq] at h
        exact ⟨_, _, _, _, _, _, _, _, _, rfl, h.1.1.1.1.1.1.1.1.1, h.1.1.1.1.1.1.1.1.2, h.1.1.1.1.1.1.1.2, h.1.1.1.1.1.1.2, h.1.1.1.1.1.2, h.1.1.1.1.2, h.1.1.1.2, h.1.1.2, h.1.2, h.2⟩
      · cases h
    obtain ⟨lx, p1, rx, p2, x, y, z, p3, p, rfl, e1, e2, g1, g2, h1, h2, h3, h4, h5, h6⟩ := h'
    have k1 := iha.val X sc x g l.2.2.1 h1
    have k2 := ihb.val X sc y g l.2.2.2.1 h3
    have k3 := ihc.val X sc z g l.2.2.2.2 h5
    have q1 := g.gl g1
    have q2 := g.gl g2
    have hc := g.calm
    obtain ⟨rfl, rfl, rfl, rfl, rfl, -, -, -, -, -⟩ := g
    exact pe_lrg3V e1 e2 hc q1.1 l.1 q2.1 l.2.1 k1 h2 k2 h4 k3 h6
  | sset m a iha =>
    refine .of (fun X sc e g l h => ?_) (fun sc e h => by cases e <;> first | rfl | cases h) (fun _ _ => rfl) (fun _ _ _ => rfl)
    have h' : ∃ lx p1 rx p2 x p3 p, e = .Call (.Name lx p1) [.Call (.Name rx p2) [x] [] p3] [] p ∧ lx = Str.ofString "sorted" ∧ rx = Str.ofString "set" ∧ glB sc lx = true ∧ glB sc rx = true ∧ ce N a sc x = true ∧ odd x = false := by
      simp only [ce] at h
      split at h
      · simp only [Bool.and_eq_true, Bool.not_eq_true', decide_eq_true_eq] at h
        exact ⟨_, _, _, _, _, _, _, rfl, h.1.1.1.1.1, h.1.1.1.1.2, h.1.1.1.2, h.1.1.2, h.1.2, h.2⟩
      · cases h
    obtain ⟨lx, p1, rx, p2, x, p3, p, rfl, e1, e2, g1, g2, h1, h2⟩ := h'
    have k1 := iha.val X sc x g l.2.2 h1
    have q1 := g.gl g1
    have q2 := g.gl g2
    have hc := g.calm
    obtain ⟨rfl, rfl, rfl, rfl, rfl, -, -, -, -, -⟩ := g
    exact pe_ssetV e1 e2 hc q1.1 l.1 q2.1 l.2.1 k1 h2
  | lrg m a iha =>
    refine .of (fun X sc e g l h => ?_) (fun sc e h => by cases e <;> first | rfl | cases h) (fun _ _ => rfl) (fun _ _ _ => rfl)
    have h' : ∃ lx p1 rx p2 x p3 p, e = .Call (.Name lx p1) [.Call (.Name rx p2) [x] [] p3] [] p ∧ lx = Str.ofString "list" ∧ rx = Str.ofString "range" ∧ glB sc lx = true ∧ glB sc rx = true ∧ ce N a sc x = true ∧ odd x = false := by
      simp only [ce] at h
      split at h
      · simp only [Bool.and_eq_true, Bool.not_eq_true', decide_eq_true_eq] at h
        exact ⟨_, _, _, _, _, _, _, rfl, h.1.1.1.1.1, h.1.1.1.1.2, h.1.1.1.2, h.1.1.2, h.1.2, h.2⟩
      · cases h
    obtain ⟨lx, p1, rx, p2, x, p3, p, rfl, e1, e2, g1, g2, h1, h2⟩ := h'
    have k1 := iha.val X sc x g l.2.2 h1
    have q1 := g.gl g1
    have q2 := g.gl g2
    have hc := g.calm
    obtain ⟨rfl, rfl, rfl, rfl, rfl, -, -, -, -, -⟩ := g
    exact pe_lrgV e1 e2 hc q1.1 l.1 q2.1 l.2.1 k1 h2
  | call f d a iha =>
    refine .of (fun X sc e g l h => ?_) (fun sc e h => by cases e <;> first | rfl | cases h) (fun _ _ => rfl) (fun _ _ _ => rfl)
    have h' : ∃ x p1 es p, e = .Call (.Name x p1) es [] p ∧ x = f ∧ glB sc x = true ∧ ceL N a sc es = true := by
      simp only [ce] at h
      split at h
      · simp only [Bool.and_eq_true, decide_eq_true_eq] at h
        exact ⟨_, _, _, _, rfl, h.1.1, h.1.2, h.2⟩
      · cases h
    obtain ⟨x, p1, es, p, rfl, e1, g1, h1⟩ := h'
    have k1 := iha.args X sc es g l.2 h1
    have q1 := g.gl g1
    have hr := g.room
    obtain ⟨rfl, rfl, rfl, rfl, rfl, -, -, -, -, -⟩ := g
    exact pe_callV e1 l.1 hr q1.1 q1.2 k1 (ceL_ho h1) (ceL_h0 h1)
  | prim m p a iha =>
    refine .of (fun X sc e g l h => ?_) (fun sc e h => by cases e <;> first | rfl | cases h) (fun _ _ => rfl) (fun _ _ _ => rfl)
    have h' : ∃ x p1 e1 es p', e = .Call (.Name x p1) (e1 :: es) [] p' ∧ x = Str.ofString (primN p) ∧ primOk p = true ∧ glB sc x = true ∧ ceL N a sc (e1 :: es) = true := by
      simp only [ce] at h
      split at h
      · simp only [Bool.and_eq_true, decide_eq_true_eq] at h
        exact ⟨_, _, _, _, _, rfl, h.1.1.1, h.1.1.2, h.1.2, h.2⟩
      · cases h
    obtain ⟨x, p1, e1, es, p', rfl, e2, hp, g1, h1⟩ := h'
    have k1 := iha.args X sc _ g l.2 h1
    have q1 := g.gl g1
    have hu : X.A.units + 64 < cLine := g.hu
    have hc := g.calm
    obtain ⟨rfl, rfl, rfl, rfl, rfl, -, -, -, -, -⟩ := g
    obtain ⟨o1, o2⟩ := ceL_ho (env := X.env) h1 e1 es rfl
    exact pe_primV hu e2 hp hc q1.1 q1.2 l.1 k1 o1 o2
  | met m p r a ihr iha =>
    refine .of (fun X sc e g l h => ?_) (fun sc e h => by cases e <;> first | rfl | cases h) (fun _ _ => rfl) (fun _ _ _ => rfl)
    have h' : ∃ o nm ap es cp, e = .Call (.Attribute o nm ap) es [] cp ∧ nm = Str.ofString (mthN p) ∧ mthOk p = true ∧ ce N r sc o = true ∧ isC0 o = false ∧ (ap.endLine == cp.line) = true ∧ es.length < 20 ∧ ceL N a sc es = true := by
      simp only [ce] at h
      split at h
      · simp only [Bool.and_eq_true, Bool.not_eq_true', decide_eq_true_eq] at h
        exact ⟨_, _, _, _, _, rfl, h.1.1.1.1.1.1, h.1.1.1.1.1.2, h.1.1.1.1.2, h.1.1.1.2, h.1.1.2, h.1.2, h.2⟩
      · cases h
    obtain ⟨o, nm, ap, es, cp, rfl, e2, hp, h0, h1, h2, h3, h4⟩ := h'
    have k1 := ihr.val X sc o g l.1 h0
    have k2 := iha.args X sc es g l.2 h4
    have hu := g.hu80
    obtain ⟨rfl, rfl, rfl, rfl, rfl, -, -, -, -, -⟩ := g
    exact pe_metV hu e2 hp k1 h1 h2 h3 k2 (ceL_ho h4) (ceL_h0 h4)
  | comp m own t it e1 cd ihi ihe ihc =>
    refine .of (fun X sc e g l h => ?_) (fun sc e h => by cases e <;> first | rfl | cases h) (fun _ _ => rfl) (fun _ _ _ => rfl)
    obtain ⟨elt, tg, iter, ifs, scope, p, own', g', tt, rfl, hc, hN, kI, ok, kT, kC, kE, hs, hT⟩ := comp_pk ihi ihe ihc g l h
    exact (pe_lc hc hN kI ok kT kC kE hs).w hT
  | itv a iha =>
    refine ⟨fun _ _ _ _ _ h => (by cases h), fun _ _ _ _ _ h => (by cases h), fun _ _ _ _ _ _ _ h => (by cases h), fun _ _ _ _ _ h => (by cases h), fun _ _ _ _ _ h => (by cases h), fun X sc tg e g l h => ?_⟩
    have k1 := iha.val X sc e g l h
    obtain ⟨rfl, rfl, rfl, rfl, rfl, -, -, -, -, -⟩ := g
    exact pi_itvV k1
  | it1 a iha =>
    refine ⟨fun _ _ _ _ _ h => (by cases h), fun _ _ _ _ _ h => (by cases h), fun _ _ _ _ _ _ _ h => (by cases h), fun _ _ _ _ _ h => (by cases h), fun _ _ _ _ _ h => (by cases h), fun X sc tg e g l h => ?_⟩
    have h' : ∃ r p1 x p, e = .Call (.Name r p1) [x] [] p ∧ r = Str.ofString "range" ∧ glB sc r = true ∧ ce N a sc x = true ∧ odd x = false := by
      simp only [ceI] at h
      split at h
      · simp only [Bool.and_eq_true, Bool.not_eq_true', decide_eq_true_eq] at h
        exact ⟨_, _, _, _, rfl, h.1.1.1, h.1.1.2, h.1.2, h.2⟩
      · cases h
    obtain ⟨r, p1, x, p, rfl, e1, g1, h1, h2⟩ := h'
    have k1 := iha.val X sc x g l.2 h1
    have q1 := g.gl g1
    obtain ⟨rfl, rfl, rfl, rfl, rfl, -, -, -, -, -⟩ := g
    exact pi_it1V e1 q1.1 l.1 k1 h2
  | it2 a b iha ihb =>
    refine ⟨fun _ _ _ _ _ h => (by cases h), fun _ _ _ _ _ h => (by cases h), fun _ _ _ _ _ _ _ h => (by cases h), fun _ _ _ _ _ h => (by cases h), fun _ _ _ _ _ h => (by cases h), fun X sc tg e g l h => ?_⟩
    have h' : ∃ r p1 x y p, e = .Call (.Name r p1) [x, y] [] p ∧ r = Str.ofString "range" ∧ glB sc r = true ∧ ce N a sc x = true ∧ odd x = false ∧ ce N b sc y = true ∧ odd y = false := by
      simp only [ceI] at h
      split at h
      · simp only [Bool.and_eq_true, Bool.not_eq_true', decide_eq_true_eq] at h
        exact ⟨_, _, _, _, _, rfl, h.1.1.1.1.1, h.1.1.1.1.2, h.1.1.1.2, h.1.1.2, h.1.2, h.2⟩
      · cases h
    obtain ⟨r, p1, x, y, p, rfl, e1, g1, h1, h2, h3, h4⟩ := h'
    have k1 := iha.val X sc x g l.2.1 h1
    have k2 := ihb.val X sc y g l.2.2 h3
    have q1 := g.gl g1
    obtain ⟨rfl, rfl, rfl, rfl, rfl, -, -, -, -, -⟩ := g
    exact pi_it2V e1 q1.1 l.1 k1 h2 k2 h4
  | it3 a b c iha ihb ihc =>
    refine ⟨fun _ _ _ _ _ h => (by cases h), fun _ _ _ _ _ h => (by cases h), fun _ _ _ _ _ _ _ h => (by cases h), fun _ _ _ _ _ h => (by cases h), fun _ _ _ _ _ h => (by cases h), fun X sc tg e g l h => ?_⟩
    have h' : ∃ r p1 x y z p, e = .Call (.Name r p1) [x, y, z] [] p ∧ r = Str.ofString "range" ∧ glB sc r = true ∧ ce N a sc x = true ∧ odd x = false ∧ ce N b sc y = true ∧ odd y = false ∧ ce N c sc z = true ∧ odd z = false := by
      simp only [ceI] at h
      split at h
      · simp only [Bool.and_eq_true, Bool.not_eq_true', decide_eq_true_eq] at h
        exact ⟨_, _, _, _, _, _, rfl, h.1.1.1.1.1.1.1, h.1.1.1.1.1.1.2, h.1.1.1.1.1.2, h.1.1.1.1.2, h.1.1.1.2, h.1.1.2, h.1.2, h.2⟩
      · cases h
    obtain ⟨r, p1, x, y, z, p, rfl, e1, g1, h1, h2, h3, h4, h5, h6⟩ := h'
    have k1 := iha.val X sc x g l.2.1 h1
    have k2 := ihb.val X sc y g l.2.2.1 h3
    have k3 := ihc.val X sc z g l.2.2.2 h5
    have q1 := g.gl g1
    obtain ⟨rfl, rfl, rfl, rfl, rfl, -, -, -, -, -⟩ := g
    exact pi_it3V e1 q1.1 l.1 k1 h2 k2 h4 k3 h6
  | ien a iha =>
    refine ⟨fun _ _ _ _ _ h => (by cases h), fun _ _ _ _ _ h => (by cases h), fun _ _ _ _ _ _ _ h => (by cases h), fun _ _ _ _ _ h => (by cases h), fun _ _ _ _ _ h => (by cases h), fun X sc tg e g l h => ?_⟩
    have h' : ∃ elts kk tp r p1 x p, tg = .Tuple elts kk tp ∧ e = .Call (.Name r p1) [x] [] p ∧ r = Str.ofString "enumerate" ∧ glB sc r = true ∧ ce N a sc x = true ∧ odd x = false := by
      simp only [ceI] at h
      split at h
      · split at h
        · simp only [Bool.and_eq_true, Bool.not_eq_true', decide_eq_true_eq] at h
          exact ⟨_, _, _, _, _, _, _, rfl, rfl, h.1.1.1, h.1.1.2, h.1.2, h.2⟩
        · cases h
      · cases h
    obtain ⟨elts, kk, tp, r, p1, x, p, rfl, rfl, e1, g1, h1, h2⟩ := h'
    have k1 := iha.val X sc x g l.2 h1
    have q1 := g.gl g1
    obtain ⟨rfl, rfl, rfl, rfl, rfl, -, -, -, -, -⟩ := g
    exact pi_ienV e1 q1.1 l.1 k1 h2
  | izp a b iha ihb =>
    refine ⟨fun _ _ _ _ _ h => (by cases h), fun _ _ _ _ _ h => (by cases h), fun _ _ _ _ _ _ _ h => (by cases h), fun _ _ _ _ _ h => (by cases h), fun _ _ _ _ _ h => (by cases h), fun X sc tg e g l h => ?_⟩
    have h' : ∃ elts kk tp r p1 x y p, tg = .Tuple elts kk tp ∧ e = .Call (.Name r p1) [x, y] [] p ∧ r = Str.ofString "zip" ∧ glB sc r = true ∧ ce N a sc x = true ∧ odd x = false ∧ ce N b sc y = true ∧ odd y = false := by
      simp only [ceI] at h
      split at h
      · split at h
        · simp only [Bool.and_eq_true, Bool.not_eq_true', decide_eq_true_eq] at h
          exact ⟨_, _, _, _, _, _, _, _, rfl, rfl, h.1.1.1.1.1, h.1.1.1.1.2, h.1.1.1.2, h.1.1.2, h.1.2, h.2⟩
        · cases h
      · cases h
    obtain ⟨elts, kk, tp, r, p1, x, y, p, rfl, rfl, e1, g1, h1, h2, h3, h4⟩ := h'
    have k1 := iha.val X sc x g l.2.1 h1
    have k2 := ihb.val X sc y g l.2.2 h3
    have q1 := g.gl g1
    obtain ⟨rfl, rfl, rfl, rfl, rfl, -, -, -, -, -⟩ := g
    exact pi_izpV e1 q1.1 l.1 k1 h2 k2 h4
  | ienz a b iha ihb => exact ⟨fun _ _ _ _ _ h => (by cases h), fun _ _ _ _ _ h => (by cases h), fun _ _ _ _ _ _ _ h => (by cases h), fun _ _ _ _ _ h => (by cases h), fun _ _ _ _ _ h => (by cases h), fun X sc tg e g l h => (by cases h)⟩
end
end VI

set_option maxRecDepth 100000
set_option maxHeartbeats 2000000
/-! VI10: statements; a def. -/
namespace VI
open PySem PySem.Spec PyProof.Rows L2 RZ

def isTupE : Expr → Bool
  | .Tuple .. => true
  | _ => false
mutual
def ceS (N : List Str) (sc : Scope) : St → Stmt → Bool
  | .asg t e, s => match s with
    | .Assign [tg] v _ => match tg with
      | .Name _ _ => ceT N sc (fun _ => true) t tg && ce N e sc v
      | .Tuple _ _ _ => ceT N sc (fun _ => true) t tg && ce N e sc v && !isTupE v
      | _ => false
    | _ => false
  | .aug i o e, s => match s with
    | .AugAssign (.Name x _) op v _ => decide (N[i]? = some x) && locB sc (fun _ => true) x && decide (op = opB o) && (decide (o = .add) || decide (o = .sub)) && ce N e sc v
    | _ => false
  | .set a i e, s => match s with
    | .Assign [.Subscript o k _] v _ => ce N a sc o && ce N i sc k && !odd k && ce N e sc v
    | _ => false
  | .ex e, s => match s with
    | .Expr v _ => ce N e sc v && !isLc v
    | _ => false
  | .ret e, s => match s with
    | .Return (some v) _ => ce N e sc v
    | _ => false
  | .ifs c a b, s => match s with
    | .If t x y _ => ce N c sc t && !isIf t && ceSs N sc a x && ceSs N sc b y
    | _ => false
  | .whl c b, s => match s with
    | .While t x [] _ => ce N c sc t && !isIf t && ceSs N sc b x
    | _ => false
  | .for t it b, s => match s with
    | .For tg iter x [] _ => ceT N sc (fun _ => true) t tg && ceI N it sc tg iter && !odd iter && ceSs N sc b x
    | _ => false
  | .opq, _ => true
  | .tr F a, s => match F.mat N sc s with
    | some ss => ceSs N sc a ss
    | none => false
  | .lock _ a, s => ceS N sc a s
  | .ext F l, s => match F.mat N sc s with
    | some es => ceL N l sc es
    | none => false
  | .brk, s => match s with
    | .Break _ => true
    | _ => false
  | .cont, s => match s with
    | .Continue _ => true
    | _ => false
  | .pass, s => match s with
    | .Pass _ => true
    | _ => false
  | _, _ => false
def ceSs (N : List Str) (sc : Scope) : St → List Stmt → Bool
  | .nil, ss => match ss with
    | [] => true
    | _ => false
  | .cons s r, ss => match ss with
    | x :: ss => ceS N sc s x && ceSs N sc r ss
    | [] => false
  | _, _ => false
end
def LkS (K : PySem.W.Frag) (mg : Str → Option Value) (F : Str → Fn → Prop) (G : FO) : St → Prop
  | .ext f l => G.s f ∧ Lk K mg F G l
  | .cons s r => LkS K mg F G s ∧ LkS K mg F G r
  | .asg _ e => Lk K mg F G e
  | .aug _ _ e => Lk K mg F G e
  | .set a i e => Lk K mg F G a ∧ Lk K mg F G i ∧ Lk K mg F G e
  | .ex e => Lk K mg F G e
  | .ret e => Lk K mg F G e
  | .ifs c a b => Lk K mg F G c ∧ LkS K mg F G a ∧ LkS K mg F G b
  | .whl c b => Lk K mg F G c ∧ LkS K mg F G b
  | .for _ it b => Lk K mg F G it ∧ LkS K mg F G b
  | .lock _ s => LkS K mg F G s
  | .tr f s => G.t f ∧ LkS K mg F G s
  | _ => True

section
variable {K : PySem.W.Frag} {W : Wd} {σ : L2.St} {H : Hp}
theorem _root_.L2.PS.w {X : Cx} {e : Stmt} {t t' : TS} (h : PS X e t) (f : ∀ D σ H, t' D σ H → t D σ H) : PS X e t' := ⟨fun pins s σ H D I q => h.run pins s σ H D I (f _ _ _ q)⟩
theorem _root_.L2.PSs.w {X : Cx} {e : List Stmt} {t t' : TS} (h : PSs X e t) (f : ∀ D σ H, t' D σ H → t D σ H) : PSs X e t' := ⟨fun pins s σ H D I q => h.run pins s σ H D I (f _ _ _ q)⟩
theorem PostS.no {Wx : WX} {D : Ends} (h : PostS K Wx W .no D) : False := h
/-- a value, then what is done with it -/
theorem T.st {Wx : WX} {m : Ev → Store → Out AV} {f : AV → Store → OS} {ρ : Ev} {S : Store} {D : Ends} {Q' : VK} (s : Stt K W ρ S σ H) (h : PostS K Wx W ((m ρ S).st ρ f) D)
    (k : ∀ a S1 W1 x, Le W W1 → Stt K W1 ρ S1 σ W1.H → RV K W1 a x → PostS K Wx W1 (f a S1) D → Q' x W1.H) : T K m σ H Q' := by
  cases e : m ρ S with
  | ok a S1 =>
    rw [e] at h
    exact ⟨W, ρ, S, s, a, S1, e, fun W1 x L1 R1 r1 => k a S1 W1 x L1 (s.next L1 R1) r1 (PostS.mono L1 h)⟩
  | ex c S1 => rw [e] at h; exact h.elim
  | no => rw [e] at h; exact h.elim
theorem T.tg {Wx : WX} {m : Ev → Store → Out AV} {t : Tg} {D : Ends} (h : TSt K Wx (fun ρ S => (m ρ S).st ρ fun a S1 => match tgD t a ρ with
    | some ρ1 => .nx ρ1 S1
    | none => .no) D σ H) : tAsg (T K m) (gOf K t) D σ H := by
  obtain ⟨W, ρ, S, s, P⟩ := h
  refine T.st s P fun a S1 W1 x L1 s1 ra P1 => ?_
  cases e : tgD t a ρ with
  | none => rw [e] at P1; exact P1.elim
  | some ρ1 =>
    rw [e] at P1
    exact gOf_ok t e ra s1.er fun σ' er' _ => P1 W1 σ' (Le.refl W1) s1.rep er'
/-- a test, then one of two -/
theorem TB.ifs {Wx : WX} {mc : Ev → Store → Out AV} {ma mb : Ev → Store → OS} {D : Ends} (h : TSt K Wx (fun ρ S => (truD (mc ρ S)).st ρ fun x S1 => match x with
    | .bl true => ma ρ S1
    | .bl false => mb ρ S1
    | _ => .no) D σ H) : tIfS (TB K fun ρ S => truD (mc ρ S)) (TSt K Wx ma) (TSt K Wx mb) D σ H := by
  obtain ⟨W, ρ, S, s, P⟩ := h
  dsimp only at P
  cases e : truD (mc ρ S) with
  | ok a S1 =>
    rw [e] at P
    cases a with
    | bl b =>
      refine ⟨W, ρ, S, s, b, S1, e, fun W1 L1 R1 => ?_⟩
      have P1 := PostS.mono L1 P
      dsimp only
      cases b with
      | true => rw [if_pos rfl]; exact ⟨W1, ρ, S1, s.next L1 R1, P1⟩
      | false => rw [if_neg (by decide)]; exact ⟨W1, ρ, S1, s.next L1 R1, P1⟩
    | _ => exact P.elim
  | ex c S1 => rw [e] at P; exact P.elim
  | no => rw [e] at P; exact P.elim
/-- .. with what stands for the next turns left open -/
def whlT (c : Ev → Store → Out AV) (b : Ev → Store → OS) (f : Ev → Store → OS) (ρ : Ev) (S : Store) : OS := match c ρ S with
    | .ok (.bl true) S1 => match b ρ S1 with
      | .nx ρ2 S2 => f ρ2 S2
      | .ct ρ2 S2 => f ρ2 S2
      | .bk ρ2 S2 => .nx ρ2 S2
      | o => o
    | .ok (.bl false) S1 => .nx ρ S1
    | _ => .no
theorem whlN_succ (c : Ev → Store → Out AV) (b : Ev → Store → OS) (n : Nat) (ρ : Ev) (S : Store) : whlN c b (n + 1) ρ S = whlT c b (whlN c b n) ρ S := rfl
theorem whlT_eq {c : Ev → Store → Out AV} {b : Ev → Store → OS} {f g : Ev → Store → OS} {ρ : Ev} {S : Store} (h : whlT c b f ρ S ≠ .no) (k : ∀ ρ S, f ρ S ≠ .no → g ρ S = f ρ S) : whlT c b g ρ S = whlT c b f ρ S := by
  unfold whlT at h ⊢
  cases e : c ρ S with
  | ok a S1 =>
    rw [e] at h
    cases a with
    | bl t =>
      cases t with
      | true =>
        dsimp only at h ⊢
        cases e2 : b ρ S1 with
        | nx ρ2 S2 => rw [e2] at h; exact k _ _ h
        | ct ρ2 S2 => rw [e2] at h; exact k _ _ h
        | _ => rfl
      | false => rfl
    | _ => rfl
  | _ => rfl
theorem whlN_le {c : Ev → Store → Out AV} {b : Ev → Store → OS} : ∀ {n : Nat} {ρ : Ev} {S : Store}, whlN c b n ρ S ≠ .no → whlN c b (n + 1) ρ S = whlN c b n ρ S := by
  intro n
  induction n with
  | zero => intro ρ S h; exact absurd rfl h
  | succ n ih =>
    intro ρ S h
    rw [whlN_succ c b (n + 1), whlN_succ c b n]
    rw [whlN_succ] at h
    exact whlT_eq h fun ρ S k => ih k
theorem whlN_mono {c : Ev → Store → Out AV} {b : Ev → Store → OS} {n m : Nat} {ρ : Ev} {S : Store} (h : whlN c b n ρ S ≠ .no) (hm : n ≤ m) : whlN c b m ρ S = whlN c b n ρ S := by
  induction m with
  | zero => have : n = 0 := by omega
            subst this; rfl
  | succ m ih =>
    by_cases hn : n = m + 1
    · subst hn; rfl
    · have e := ih (by omega)
      rw [whlN_le (by rw [e]; exact h), e]
theorem whlD_eq {c : Ev → Store → Out AV} {b : Ev → Store → OS} {n : Nat} {ρ : Ev} {S : Store} (h : whlN c b n ρ S ≠ .no) : whlD c b ρ S = whlN c b n ρ S := by
  have hx : ∃ n, whlN c b n ρ S ≠ .no := ⟨n, h⟩
  unfold whlD
  rw [dif_pos hx]
  have h2 := Classical.choose_spec hx
  rcases Nat.le_total n (Classical.choose hx) with hle | hle
  · exact whlN_mono h hle
  · exact (whlN_mono h2 hle).symm
theorem T.whl {Wx : WX} {mc : Ev → Store → Out AV} {mb : Ev → Store → OS} {D : Ends} (h : TSt K Wx (fun ρ S => whlD (fun ρ S => truD (mc ρ S)) mb ρ S) D σ H) : tWhile (TB K fun ρ S => truD (mc ρ S)) (TSt K Wx mb) D σ H := by
  obtain ⟨W, ρ, S, s, P⟩ := h
  dsimp only at P
  -- how many turns
  have hx : ∃ n, whlN (fun ρ S => truD (mc ρ S)) mb n ρ S ≠ .no := Classical.byContradiction fun hx => by
    unfold whlD at P
    rw [dif_neg hx] at P
    exact P.elim
  obtain ⟨n, hn⟩ := hx
  rw [whlD_eq hn] at P
  refine ⟨fun n σ H => ∃ W ρ S, Stt K W ρ S σ H ∧ PostS K Wx W (whlN (fun ρ S => truD (mc ρ S)) mb n ρ S) D, ⟨n, W, ρ, S, s, P⟩, ?_⟩
  rintro n σ H ⟨W, ρ, S, s, P⟩
  cases n with
  | zero => exact P.elim
  | succ n =>
    rw [whlN_succ] at P
    unfold whlT at P
    dsimp only at P
    cases e : truD (mc ρ S) with
    | ok a S1 =>
      rw [e] at P
      cases a with
      | bl b =>
        refine ⟨W, ρ, S, s, b, S1, e, fun W1 L1 R1 => ?_⟩
        dsimp only
        cases b with
        | true =>
          dsimp only at P
          rw [if_pos rfl]
          refine ⟨fun σ H => ∃ W ρ S, Stt K W ρ S σ H ∧ PostS K Wx W (whlN (fun ρ S => truD (mc ρ S)) mb n ρ S) D, fun σ' H' q => ⟨n, Nat.lt_succ_self n, q⟩, W1, ρ, S1, s.next L1 R1, ?_⟩
          cases e2 : mb ρ S1 with
          | nx ρ2 S2 => rw [e2] at P; exact fun W2 σ2 L2 R2 er2 => ⟨W2, ρ2, S2, ⟨rfl, R2, er2⟩, PostS.mono (L1.trans L2) P⟩
          | ct ρ2 S2 => rw [e2] at P; exact fun W2 σ2 L2 R2 er2 => ⟨W2, ρ2, S2, ⟨rfl, R2, er2⟩, PostS.mono (L1.trans L2) P⟩
          | bk ρ2 S2 => rw [e2] at P; exact fun W2 σ2 L2 R2 er2 => P W2 σ2 (L1.trans L2) R2 er2
          | rt a S2 => rw [e2] at P; exact fun W2 x L2 R2 r2 => P W2 x (L1.trans L2) R2 r2
          | ex c ρ2 S2 => rw [e2] at P; exact fun W2 σ2 cls d L2 => P W2 σ2 cls d (L1.trans L2)
          | no => rw [e2] at P; exact P.elim
        | false =>
          dsimp only at P
          rw [if_neg (by decide)]
          exact P W1 σ L1 R1 (s.er.mono L1)
      | _ => exact P.elim
    | ex c S1 => rw [e] at P; exact P.elim
    | no => rw [e] at P; exact P.elim
theorem forD_guard {Wx : WX} {t : Tg} {b : Ev → Store → OS} {gs : List (Nat × List AV)} {its : List AV} {ρ : Ev} {S : Store} {D : Ends} (h : PostS K Wx W (forD t b gs its ρ S) D) : Gd gs S := by
  cases its with
  | nil =>
    unfold forD at h
    split at h
    · assumption
    · exact h.elim
  | cons a r =>
    unfold forD at h
    split at h
    · assumption
    · exact h.elim
theorem T.for {Wx : WX} {t : Tg} {mi : Ev → Store → Out (List AV × List (Nat × List AV))} {mb : Ev → Store → OS} {D : Ends} (h : TSt K Wx (fun ρ S => match mi ρ S with
    | .ok w S1 => forD t mb w.2 w.1 ρ S1
    | _ => .no) D σ H) : tFor (TIt K mi) (gOf K t) (TSt K Wx mb) D σ H := by
  obtain ⟨W, ρ, S, s, P⟩ := h
  dsimp only at P
  cases e : mi ρ S with
  | ok w S1 =>
    rw [e] at P
    dsimp only at P
    refine ⟨W, ρ, S, s, w, S1, e, fun W1 J L1 R1 wk => ?_⟩
    obtain ⟨G, Y, walk, hG, hY⟩ := wk
    refine for_it walk (D := D) (fun i σ H => ∃ W2 ρ2 S2, Stt K W2 ρ2 S2 σ H ∧ Le W1 W2 ∧ PostS K Wx W2 (forD t mb w.2 (w.1.drop i) ρ2 S2) D) ⟨W1, ρ, S1, s.next L1 R1, Le.refl W1, by rw [List.drop_zero]; exact PostS.mono L1 P⟩ ?_ ?_ ?_
    · rintro i σ H hi ⟨W2, ρ2, S2, s2, L2, P2⟩
      rw [← s2.hH]
      exact hG W2 S2 L2.lw s2.rep (forD_guard P2)
    · rintro i x σ H H' hi ⟨W2, ρ2, S2, s2, L2, P2⟩ hy
      have gd := forD_guard P2
      rw [← s2.hH] at hy
      obtain ⟨W3, a, rfl, L3, R3, ha, rx⟩ := hY W2 S2 i x H' L2.lw s2.rep gd hy
      have hdr : w.1.drop i = a :: w.1.drop (i + 1) := by
        obtain ⟨h1, h2⟩ := List.getElem?_eq_some_iff.mp ha
        rw [List.drop_eq_getElem_cons h1, h2]
      rw [hdr] at P2
      unfold forD at P2
      rw [if_pos gd] at P2
      cases e2 : tgD t a ρ2 with
      | none => rw [e2] at P2; exact P2.elim
      | some ρ3 =>
        rw [e2] at P2
        dsimp only at P2
        refine gOf_ok t e2 rx (s2.er.mono L3) fun σ' er' _ => ⟨W3, ρ3, S2, ⟨rfl, R3, er'⟩, ?_⟩
        have P3 := PostS.mono L3 P2
        cases e3 : mb ρ3 S2 with
        | nx ρ4 S4 => rw [e3] at P3; exact fun W4 σ4 L4 R4 er4 => ⟨W4, ρ4, S4, ⟨rfl, R4, er4⟩, (L2.trans L3).trans L4, PostS.mono L4 P3⟩
        | ct ρ4 S4 => rw [e3] at P3; exact fun W4 σ4 L4 R4 er4 => ⟨W4, ρ4, S4, ⟨rfl, R4, er4⟩, (L2.trans L3).trans L4, PostS.mono L4 P3⟩
        | bk ρ4 S4 => rw [e3] at P3; exact P3
        | rt a S4 => rw [e3] at P3; exact P3
        | ex c ρ4 S4 => rw [e3] at P3; exact P3
        | no => rw [e3] at P3; exact P3.elim
    · rintro σ H ⟨W2, ρ2, S2, s2, L2, P2⟩
      have gd := forD_guard P2
      rw [List.drop_eq_nil_of_le (Nat.le_refl _)] at P2
      unfold forD at P2
      rw [if_pos gd] at P2
      rw [← s2.hH]
      exact P2 W2 σ (Le.refl W2) s2.rep s2.er
  | ex c S1 => rw [e] at P; exact P.elim
  | no => rw [e] at P; exact P.elim
end

/-! stores -/
section
variable {X : Cx}
/-- o[i] = v -/
theorem set_V (hu : X.A.units + 1 < cLine) : PSet X (fun o i v H Q => ∃ W S a b c, W.H = H ∧ Rep X.K W S ∧ RV X.K W a o ∧ RV X.K W b i ∧ RV X.K W c v ∧ ∃ S', setD a b c S = some S' ∧ ∀ W', Le W W' → Rep X.K W' S' → Q W'.H) := by
  rintro pins s σ H o i v ov iv u Q I ro ri rv ⟨W, S, a, b, c, rfl, R, ra, rb, rc, S', e, P⟩
  have dic : ∀ {p : Nat} {l : List (Key × AV)} {k : Key}, a = .loc p → S[p]? = some (.dct false l) → keyOf b = some k → l.length < sizeLine → S' = S.set p (.dct false (putA k c l)) →
      wpAny (model X.prog X.w) X.A (setItem ov iv u) (fun _ s' => ∃ H', Inv X pins σ H' s' ∧ Q H') X.xe s := by
    rintro p l k rfl e1 e2 hz rfl
    have ei := keyOf_ok e2 rb
    subst ei
    cases ra with
    | loc hi =>
      obtain ⟨xs, h1, rk⟩ := R.obj p _ e1
      obtain rfl : ov = Value.ref (W.φ p) := ro
      refine d_setItem hu I (DPut.k (k := k) (v := v) h1 (by rw [← rk.len]; exact hz)) ri rv fun s4 I4 => ⟨_, I4, ?_⟩
      exact P (W.lay (W.φ p) (.dK (putK xs k v))) (Le.wr R hi (R.nlk e1 rfl)) (R.wr hi (R.nlk e1 rfl) ⟨_, upd_same, (rk.mw (Le.wr R hi (R.nlk e1 rfl)).lw).put k (rc.mono (Le.wr R hi (R.nlk e1 rfl)))⟩)
  cases a with
  | loc p =>
    cases b with
    | int k =>
      simp only [setD] at e
      cases e1 : S[p]? with
      | none => simp [e1] at e
      | some ob =>
        cases ob with
        | lst l =>
          simp only [e1] at e
          cases e2 : ixN l.length k with
          | none => simp [e2] at e
          | some j =>
            simp only [e2] at e
            cases e
            cases ra with
            | loc hi =>
              cases rb
              obtain ⟨xs, h1, r1⟩ := R.obj p _ e1
              refine set_list pins s σ W.H _ _ v ov iv u Q I ro ri rv ⟨W.φ p, xs, k, j, rfl, rfl, h1, by rw [← r1.len]; exact e2, ?_⟩
              exact P (W.lay (W.φ p) (.lst (xs.set j v))) (Le.wr R hi (R.nlk e1 rfl)) (R.wr hi (R.nlk e1 rfl) ⟨_, upd_same, (r1.mono (Le.wr R hi (R.nlk e1 rfl))).set j (rc.mono (Le.wr R hi (R.nlk e1 rfl)))⟩)
        | dct lk l =>
          cases lk with
          | true => simp [e1] at e
          | false =>
            simp only [e1] at e
            split at e
            · rename_i hz
              exact dic rfl e1 rfl hz (Option.some.inj e).symm
            · cases e
        | _ => simp [e1] at e
    | str k =>
      simp only [setD] at e
      cases e1 : S[p]? with
      | none => simp [e1] at e
      | some ob =>
        cases ob with
        | dct lk l =>
          cases lk with
          | true => simp [e1] at e
          | false =>
            simp only [e1] at e
            split at e
            · rename_i hz
              exact dic rfl e1 rfl hz (Option.some.inj e).symm
            · cases e
        | _ => simp [e1] at e
    | tup ks =>
      simp only [setD] at e
      cases e1 : S[p]? with
      | none => simp [e1] at e
      | some ob =>
        cases ob with
        | dcT lk l =>
          cases lk with
          | true => simp [e1] at e
          | false =>
            cases e2 : keysOf (.tup ks) with
            | none => simp [e1, e2] at e
            | some k =>
              simp only [e1, e2] at e
              split at e
              · rename_i hz
                cases e
                cases rb with
                | tup h2 s2 r2 =>
                  have ek := keysOf_ok' (l := ks) e2 r2
                  subst ek
                  cases ra with
                  | loc hi =>
                    obtain ⟨xs, h1, rk⟩ := R.obj p _ e1
                    obtain rfl : ov = Value.ref (W.φ p) := ro
                    refine d_setItem hu I (DPut.t (k := k) (v := v) h1 h2 (by rw [← rk.len]; exact hz)) ri rv fun s4 I4 => ⟨_, I4, ?_⟩
                    exact P (W.lay (W.φ p) (.dT (putK xs k v))) (Le.wr R hi (R.nlk e1 rfl)) (R.wr hi (R.nlk e1 rfl) ⟨_, upd_same, (rk.mw (Le.wr R hi (R.nlk e1 rfl)).lw).put k (rc.mono (Le.wr R hi (R.nlk e1 rfl)))⟩)
              · cases e
        | _ => simp [e1] at e
    | _ => cases e
  | _ => cases e
end
end VI

set_option maxRecDepth 100000
set_option maxHeartbeats 2000000
/-! VI11: every statement does what its twin does; a def; a law. -/
namespace VI
open PySem PySem.Spec PyProof.Rows L2 RZ

section
variable {P : Program} {w : World} {K : PySem.W.Frag} {mg : Str → Option Value} {base : Heap} {k : Nat} {N : List Str}
theorem ce_lc {a : E} {sc : Scope} {elt : Expr} {gs : List Comprehension} {scope : Scope} {p : Pos} (h : ce N a sc (.ListComp elt gs scope p) = true) : ∃ m own t it e cd, a = .comp m own t it e cd := by
  cases a <;> first | exact ⟨_, _, _, _, _, _, rfl⟩ | cases h
theorem not_lc {a : E} {sc : Scope} {e : Expr} (h : ce N a sc e = true) (hl : isLc e = true) : ∃ elt gs scope p, e = .ListComp elt gs scope p := by
  cases e <;> first | exact ⟨_, _, _, _, rfl⟩ | (cases hl; done) | (cases a <;> cases h)
theorem sw_no {e : Expr} (h : isLc e = false) (t : Option Expr) (l : Nat) (env : Env) : swapsWith e t l env = pure false := by
  cases e <;> first | rfl | cases h
theorem tup_no {tg e : Expr} (h : isTupE e = false) (env : Env) : swappedStores [tg] e env = pure none := by
  unfold swappedStores
  cases e <;> first | (cases h; done) | (cases tg <;> rfl)
theorem sub_no {o i e : Expr} {p : Pos} (env : Env) (l : Nat) : swapsWithSole [.Subscript o i p] e l env = pure false ∧ swappedStores [.Subscript o i p] e env = pure none := by
  refine ⟨?_, ?_⟩
  · unfold swapsWithSole swapsWith
    cases e <;> rfl
  · unfold swappedStores
    cases e <;> rfl
theorem asg_sub {o i : Expr} {p : Pos} {env : Env} (h : odd i = false) : ∀ v, assign (.Subscript o i p) env v = (do
      let ov ← holding [v] (eval o env)
      let iv ← holding [v, ov] (eval i env)
      standAt p
      holding [v, ov, iv] (setItem ov iv v)
      release [v, ov, iv] []) := by
  intro v
  cases i <;> first | rfl | cases h
section
variable {K : PySem.W.Frag} {W : Wd}
/-- the same, what is walked put otherwise -/
def Wd.relk (W : Wd) (q : Addr → Prop) : Wd := { W with lkd := q }
mutual
theorem RV.relk {q : Addr → Prop} : ∀ {a : AV} {x : V}, RV K W a x → RV K (W.relk q) a x
  | _, _, .non => .non
  | _, _, .bl b => .bl b
  | _, _, .int i => .int i
  | _, _, .str x => .str x
  | _, _, .ty n => .ty n
  | _, _, .tup h s r => .tup (W := W.relk q) h s (RVs.relk r)
  | _, _, .ktup h r => .ktup (W := W.relk q) h (RVs.relk r)
  | _, _, .ftup h e s r => .ftup (W := W.relk q) h e s (RVs.relk r)
  | _, _, .lst h s r => .lst (W := W.relk q) h s (RVs.relk r)
  | _, _, .loc h => .loc (W := W.relk q) h
  | _, _, .scr h s => .scr (W := W.relk q) h s
  | _, _, .scl h s => .scl (W := W.relk q) h s
  | _, _, .kscr h => .kscr (W := W.relk q) h
theorem RVs.relk {q : Addr → Prop} : ∀ {l : List AV} {xs : List V}, RVs K W l xs → RVs K (W.relk q) l xs
  | _, _, .nil => .nil
  | _, _, .cons h r => .cons (RV.relk h) (RVs.relk r)
end
theorem RO.relk {q : Addr → Prop} {a : Addr} {o : AObj} (h : RO K W a o) (hq : W.lkd a → q a) : RO K (W.relk q) a o := by
  cases o with
  | lst l => obtain ⟨xs, e, r⟩ := h; exact ⟨xs, e, r.relk⟩
  | dct b l => cases b with
    | false => obtain ⟨xs, e, r⟩ := h; exact ⟨xs, e, r.1, r.2.relk⟩
    | true => obtain ⟨z, xs, o, e, r⟩ := h; exact ⟨hq z, xs, o, e, r.1, r.2.relk⟩
  | dcT b l => cases b with
    | false => obtain ⟨xs, e, r⟩ := h; exact ⟨xs, e, r.1, r.2.relk⟩
    | true => obtain ⟨z, xs, o, e, r⟩ := h; exact ⟨hq z, xs, o, e, r.1, r.2.relk⟩
  | ins c f => obtain ⟨C, dx, xs, e, m, r⟩ := h; exact ⟨C, dx, xs, e, m, r.1, r.2.relk⟩
  | tab x => exact h
theorem ER.relk {q : Addr → Prop} {ρ : Ev} {σ : L2.St} (h : ER K W ρ σ) : ER K (W.relk q) ρ σ := ⟨h.len, fun i a e => let ⟨x, h1, h2⟩ := h.at_ i a e; ⟨x, h1, h2.relk⟩⟩
/-- an exception's wish while a dict is walked -/
def WxL (d : Addr) (od : Obj) (u : HO) (Wx : WX) : WX := fun cls dd σ H => H d = some (.frz od u) ∧ Wx cls dd σ (upd H d u)
theorem takes_lock {X : Cx} {d : Addr} {od : Obj} {u : HO} {Wx : WX} (tk : L2N.Takes X Wx) (hn : ∀ o' u', X.H_0 d ≠ some (.frz o' u')) : L2N.Takes X (WxL d od u Wx) := by
  rintro e s' ⟨a, B, sI, pins, σ, H, cls, dd, he, I, nb, up, sky, na, os, ag, w1, w2⟩
  have ne : a ≠ d := fun z => by rw [z, w1] at na; cases na
  exact tk e s' ⟨a, B, sI, pins, σ, upd H d u, cls, dd, he, I.unlock w1 hn, nb, up, sky, by rw [upd_ne ne]; exact na, os, ag, w2⟩
def tLockX (t : Addr → Obj → HO → TS) : TS := fun D σ H => ∃ d u, H d = some u ∧ Mut (some u) ∧ ∀ od, t d od u ⟨fun σ' H' => H' d = some (.frz od u) ∧ D.nx σ' (upd H' d u), fun v H' => H' d = some (.frz od u) ∧ D.rt v (upd H' d u), fun σ' H' => H' d = some (.frz od u) ∧ D.bk σ' (upd H' d u), fun σ' H' => H' d = some (.frz od u) ∧ D.ct σ' (upd H' d u)⟩ σ (upd H d (.frz od u))
theorem ps_lockX {X : Cx} {st : Stmt} {t : Addr → Obj → HO → TS} (h : ∀ d od u, (∀ o' u', X.H_0 d ≠ some (.frz o' u')) → PS X st (t d od u)) : PS X st (tLockX t) := by
  refine ⟨fun pins s σ H D I hw => ?_⟩
  obtain ⟨d, u, hd, mu, hw⟩ := hw
  obtain ⟨od, I1⟩ := I.lock hd mu
  have nf := I.nofrz hd mu
  refine thn ((h d od u nf).run pins s σ _ _ I1 (hw od)) fun f s1 q => ?_
  rcases f with _ | _ | _ | v
  all_goals first
    | (obtain ⟨x, σ', H', I2, r, e, q⟩ := q; exact ⟨x, σ', _, I2.unlock e nf, r, q⟩)
    | (obtain ⟨σ', H', I2, e, q⟩ := q; exact ⟨σ', _, I2.unlock e nf, q⟩)
theorem TSt.lock {Wx : WX} {f : Ev → Store → Option Nat} {mb : Ev → Store → OS} {D : Ends} {σ : L2.St} {H : Hp} (h : TSt K Wx (fun ρ S => match f ρ S with
    | some i => match S[i]? with
      | some (.dct false l) => unlk i (mb ρ (S.set i (.dct true l)))
      | _ => .no
    | none => .no) D σ H) : tLockX (fun d od u => TSt K (WxL d od u Wx) mb) D σ H := by
  obtain ⟨W, ρ, S, st, P⟩ := h
  dsimp only at P
  split at P
  · rename_i i _
    split at P
    · rename_i l e
      have hi : i < W.n := by rw [← st.rep.len]; exact (List.getElem?_eq_some_iff.mp e).1
      obtain ⟨xs, h1, rk⟩ := st.rep.obj i _ e
      have hn := st.rep.nlk e rfl
      refine ⟨W.φ i, .dK xs, by rw [← st.hH]; exact h1, trivial, fun od => ?_⟩
      have La : Le W (W.lay (W.φ i) (.frz od (.dK xs))) := Le.wr st.rep hi hn
      -- while it is walked
      let q : Addr → Prop := fun a => W.lkd a ∨ a = W.φ i
      let W2 : Wd := (W.lay (W.φ i) (.frz od (.dK xs))).relk q
      have R2 : Rep K W2 (S.set i (.dct true l)) := by
        refine ⟨by rw [List.length_set]; exact st.rep.len, st.rep.inj, fun a z => ⟨?_, (st.rep.hid a z).2⟩, fun j u ej => ?_, fun a z => ?_⟩
        · obtain ⟨⟨u, eu⟩, h2⟩ := st.rep.hid a z
          exact ⟨u, by show upd W.H _ _ a = _; rw [upd_ne (h2 i hi).symm]; exact eu⟩
        · by_cases hj : j = i
          · subst hj
            rw [List.getElem?_set_self (by rw [st.rep.len]; exact hi)] at ej
            cases ej
            exact ⟨.inr rfl, xs, od, upd_same, rk.1, (rk.2.mw La.lw).relk⟩
          · rw [List.getElem?_set_ne (Ne.symm hj)] at ej
            have hj' : j < W.n := by rw [← st.rep.len]; exact (List.getElem?_eq_some_iff.mp ej).1
            have r := (st.rep.obj j u ej).mono La (by show upd W.H _ _ (W.φ j) = _; rw [upd_ne (fun z => hj (st.rep.inj j i hj' hi z))])
            exact r.relk (q := q) fun z => .inl z
        · rcases z with z | rfl
          · obtain ⟨j, u, e1, e2, e3⟩ := st.rep.lk a z
            refine ⟨j, u, ?_, e2, e3⟩
            rw [List.getElem?_set_ne]
            · exact e1
            · rintro rfl; exact hn (by rw [e2]; exact z)
          · exact ⟨i, _, by rw [List.getElem?_set_self (by rw [st.rep.len]; exact hi)], rfl, rfl⟩
      have st2 : Stt K W2 ρ (S.set i (.dct true l)) σ (upd H (W.φ i) (.frz od (.dK xs))) := ⟨by rw [← st.hH]; rfl, R2, (st.er.mono La).relk⟩
      -- and behind
      have back : ∀ (W3 : Wd) (S3 : Store) (m : List (Key × AV)), Le W2 W3 → Rep K W3 S3 → S3[i]? = some (.dct true m) → W3.H (W.φ i) = some (.frz od (.dK xs)) ∧ ∃ W4 : Wd, W4.H = upd W3.H (W.φ i) (.dK xs) ∧ Le W W4 ∧ Rep K W4 (S3.set i (.dct false m)) ∧ (∀ a x, RV K W3 a x → RV K W4 a x) ∧ (∀ ρ σ, ER K W3 ρ σ → ER K W4 ρ σ) ∧ ∀ c cls dd, XR K W3 c cls dd → XR K W4 c cls dd := by
        intro W3 S3 m L3 R3 e3
        have eφ : W3.φ i = W.φ i := L3.φ i hi
        have hi3 : i < W3.n := Nat.lt_of_lt_of_le hi L3.n
        have hd : W3.H (W.φ i) = some (.frz od (.dK xs)) := L3.ll _ _ (.inr rfl) upd_same
        obtain ⟨z, ys, o', f1, f2⟩ := R3.obj i _ e3
        rw [eφ, hd] at f1
        cases f1
        have q3 : ∀ a, W3.lkd a ↔ q a := fun a => by rw [L3.lk]; exact Iff.rfl
        -- a step that frees it
        have Lb : Lw (W3.relk fun a => W.lkd a) ((W3.relk fun a => W.lkd a).lay (W.φ i) (.dK xs)) := by
          refine ⟨Nat.le_refl _, fun _ _ => rfl, fun a u ea sa => ⟨?_, sa⟩, rfl, fun a u qa ea => ?_⟩
          · show upd W3.H _ _ a = _
            rw [upd_ne (fun z => sa.2 i hi3 (eφ.trans z.symm))]; exact ea
          · show upd W3.H _ _ a = _
            rw [upd_ne (fun z => hn (by rw [← z]; exact qa))]; exact ea
        refine ⟨hd, (W3.relk fun a => W.lkd a).lay (W.φ i) (.dK xs), rfl, ⟨L3.n, L3.φ, L3.hid, fun a u ea sa => ?_, fun a u qa ea => ?_, rfl, fun a u qa ea => ?_⟩, ?_, fun a x r => (r.relk (q := fun a => W.lkd a)).mw Lb, fun ρ σ r => (r.relk (q := fun a => W.lkd a)).mw Lb, fun c cls dd r => ?_⟩
        rotate_right
        · unfold XR at r ⊢
          split at r
          · exact r
          · obtain ⟨C, dx, h1, h2, h3, h4, h5⟩ := r
            obtain ⟨h6, h7⟩ := Lb.stb dx _ h4 h5
            exact ⟨C, dx, h1, h2, h3, h6, h7⟩
          · exact r
        · have ne : a ≠ W.φ i := fun z => sa.2 i hi z.symm
          obtain ⟨g1, g2⟩ := L3.stb a u (by show upd W.H _ _ a = _; rw [upd_ne ne]; exact ea) sa
          exact ⟨by show upd W3.H _ _ a = _; rw [upd_ne ne]; exact g1, g2⟩
        · have ne : a ≠ W.φ i := fun z => (st.rep.hid a qa).2 i hi z.symm
          show upd W3.H _ _ a = _
          rw [upd_ne ne]
          exact L3.hh a u qa (by show upd W.H _ _ a = _; rw [upd_ne ne]; exact ea)
        · have ne : a ≠ W.φ i := fun z => hn (by rw [← z]; exact qa)
          show upd W3.H _ _ a = _
          rw [upd_ne ne]
          exact L3.ll a u (.inl qa) (by show upd W.H _ _ a = _; rw [upd_ne ne]; exact ea)
        · refine ⟨by rw [List.length_set]; exact R3.len, R3.inj, fun a z => ⟨?_, (R3.hid a z).2⟩, fun j u ej => ?_, fun a z => ?_⟩
          · obtain ⟨⟨u, eu⟩, h2⟩ := R3.hid a z
            exact ⟨u, by show upd W3.H _ _ a = _; rw [upd_ne (fun y => h2 i hi3 (eφ.trans y.symm))]; exact eu⟩
          · by_cases hj : j = i
            · subst hj
              rw [List.getElem?_set_self (by rw [R3.len]; exact hi3)] at ej
              cases ej
              exact ⟨xs, by show upd W3.H _ _ (W3.φ j) = _; rw [eφ]; exact upd_same, f2.1, (f2.2.relk (q := fun a => W.lkd a)).mw Lb⟩
            · rw [List.getElem?_set_ne (Ne.symm hj)] at ej
              have hj' : j < W3.n := by rw [← R3.len]; exact (List.getElem?_eq_some_iff.mp ej).1
              have ne : W3.φ j ≠ W.φ i := fun z => hj (R3.inj j i hj' hi3 (z.trans eφ.symm))
              have r := (R3.obj j u ej).relk (q := fun a => W.lkd a) fun z => by
                rcases (q3 _).1 z with z | z
                · exact z
                · exact absurd z ne
              exact r.mw Lb (by show upd W3.H _ _ (W3.φ j) = W3.H (W3.φ j); rw [upd_ne ne])
          · obtain ⟨j, u, e1, e2, e3'⟩ := R3.lk a ((q3 a).2 (.inl z))
            refine ⟨j, u, ?_, e2, e3'⟩
            rw [List.getElem?_set_ne]
            · exact e1
            · rintro rfl; exact hn (by rw [← eφ, e2]; exact z)
      refine ⟨W2, ρ, S.set i (.dct true l), st2, ?_⟩
      cases em : mb ρ (S.set i (.dct true l)) with
      | nx ρ3 S3 =>
        rw [em] at P
        simp only [unlk] at P
        split at P
        · rename_i m e3
          intro W3 σ3 L3 R3 er
          obtain ⟨g1, W4, g2, g3, g4, _, g5, _⟩ := back W3 S3 m L3 R3 e3
          refine ⟨g1, ?_⟩
          rw [← g2]
          exact P W4 σ3 g3 g4 (g5 _ _ er)
        · exact P.elim
      | rt a S3 =>
        rw [em] at P
        simp only [unlk] at P
        split at P
        · rename_i m e3
          intro W3 x L3 R3 r
          obtain ⟨g1, W4, g2, g3, g4, g5, _, _⟩ := back W3 S3 m L3 R3 e3
          refine ⟨g1, ?_⟩
          rw [← g2]
          exact P W4 x g3 g4 (g5 _ _ r)
        · exact P.elim
      | bk ρ3 S3 => rw [em] at P; exact P.elim
      | ct ρ3 S3 => rw [em] at P; exact P.elim
      | ex c ρ3 S3 =>
        rw [em] at P
        simp only [unlk] at P
        split at P
        · rename_i m e3
          intro W3 σ3 cls dd L3 R3 er xr
          obtain ⟨g1, W4, g2, g3, g4, _, g5, g6⟩ := back W3 S3 m L3 R3 e3
          refine ⟨g1, ?_⟩
          rw [← g2]
          exact P W4 σ3 cls dd g3 g4 (g5 _ _ er) (g6 _ _ _ xr)
        · exact P.elim
      | no => rw [em] at P; exact P.elim
    · exact P.elim
  · exact P.elim
end
structure OkS (P : Program) (w : World) (K : PySem.W.Frag) (mg : Str → Option Value) (base : Heap) (k : Nat) (N : List Str) (a : St) : Prop where
  one : ∀ {Wx : WX} X sc s, GS P w K mg base k N Wx X sc → LkS K mg (Fx P w K mg base k) (Go P w K mg base k) a → ceS N sc a s = true → PS X s (TSt K Wx (denS a))
  all : ∀ {Wx : WX} X sc s, GS P w K mg base k N Wx X sc → LkS K mg (Fx P w K mg base k) (Go P w K mg base k) a → ceSs N sc a s = true → PSs X s (TSt K Wx (denS a))
theorem Stt.nx {Wx : WX} {W : Wd} {ρ : Ev} {S : Store} {σ : L2.St} {H : Hp} {D : Ends} (s : Stt K W ρ S σ H) (h : PostS K Wx W (.nx ρ S) D) : D.nx σ H := by
  have := h W σ (Le.refl W) s.rep s.er
  rw [s.hH] at this
  exact this
theorem okS : ∀ a : St, OkS P w K mg base k N a := by
  intro a
  induction a with
  | nil =>
    refine ⟨fun _ _ _ _ _ h => (by cases h), @fun Wx X sc s g l h => ?_⟩
    cases s with
    | nil => exact pss_nil.w fun D σ H ⟨W, ρ, S, s, q⟩ => s.nx q
    | cons _ _ => cases h
  | cons a r iha ihr =>
    refine ⟨fun _ _ _ _ _ h => (by cases h), @fun Wx X sc s g l h => ?_⟩
    cases s with
    | nil => cases h
    | cons x ss =>
      simp only [ceSs, Bool.and_eq_true] at h
      refine (pss_cons (iha.one X sc x g l.1 h.1) (ihr.all X sc ss g l.2 h.2)).w fun D σ H ⟨W, ρ, S, s, q⟩ => ⟨W, ρ, S, s, ?_⟩
      have q : PostS K Wx W (match denS a ρ S with
        | .nx ρ1 S1 => denS r ρ1 S1
        | o => o) D := q
      cases e : denS a ρ S with
      | nx ρ1 S1 => rw [e] at q; exact fun W1 σ1 L1 R1 er1 => ⟨W1, ρ1, S1, ⟨rfl, R1, er1⟩, PostS.mono L1 q⟩
      | _ => rw [e] at q; exact q
  | opq => exact ⟨@fun Wx X sc s g l h => ⟨fun pins s1 σ H D I ⟨W, ρ, S, st, q⟩ => q.elim⟩, fun _ _ s _ _ h => (by cases s <;> cases h)⟩
  | ext F a =>
    refine ⟨@fun Wx X sc s g l h => ?_, fun _ _ s _ _ h => (by cases s <;> cases h)⟩
    have h : (match F.mat N sc s with
      | some es => ceL N a sc es
      | none => false) = true := h
    cases em : F.mat N sc s with
    | none => rw [em] at h; cases h
    | some es =>
      rw [em] at h
      exact l.1 N X sc _ s es _ g em ((okE a).fs X sc es g.toGE l.2 h)
  | asg t e =>
    refine ⟨@fun Wx X sc s g l h => ?_, fun _ _ s _ _ h => (by cases s <;> cases h)⟩
    have h' : ∃ tg v p, s = .Assign [tg] v p ∧ ceT N sc (fun _ => true) t tg = true ∧ ce N e sc v = true ∧ ((∃ x p', tg = .Name x p') ∨ (∃ es kk p', tg = .Tuple es kk p') ∧ isTupE v = false) := by
      simp only [ceS] at h
      split at h
      · split at h
        · simp only [Bool.and_eq_true] at h
          exact ⟨_, _, _, rfl, h.1, h.2, .inl ⟨_, _, rfl⟩⟩
        · simp only [Bool.and_eq_true, Bool.not_eq_true'] at h
          exact ⟨_, _, _, rfl, h.1.1, h.1.2, .inr ⟨⟨_, _, _, rfl⟩, h.2⟩⟩
        · cases h
      · cases h
    obtain ⟨tg, v, p, rfl, h1, h2, h3⟩ := h'
    have hfin : ∀ D σ H, TSt K Wx (denS (.asg t e)) D σ H → tAsg (T K (den e)) (gOf K t) D σ H := fun D σ H q => T.tg q
    have hpg : PG X tg (gOf K t) := by
      have hN := g.hN
      have hK := g.hK
      have q := pg_V (X := X) g.calm (by rw [hN]; exact g.nd) g.scope g.fn t tg (by rw [hN]; exact h1)
      rw [hK] at q
      exact q
    rcases h3 with ⟨x, p', rfl⟩ | ⟨⟨es, kk, p', rfl⟩, h3⟩
    · -- a name
      obtain ⟨i, rfl⟩ : ∃ i, t = .n i := by cases t <;> first | exact ⟨_, rfl⟩ | cases h1
      simp only [ceT, Bool.and_eq_true, decide_eq_true_eq] at h1
      have hN := g.hN
      have nd : X.N.Nodup := by rw [hN]; exact g.nd
      have hi : X.N[i]? = some x := by rw [hN]; exact h1.1
      obtain ⟨hx, hf⟩ := g.toGE.loc h1.2
      have hf' : X.fn x = true ∨ X.env.scope.names.lookup x = some .local := by rw [g.fn]; exact .inl rfl
      have plain : ∀ (hs : swapsWith v (some (.Name x p')) p.line X.env = pure false), PS X (.Assign [.Name x p'] v p) (TSt K Wx (denS (.asg (.n i) e))) := fun hs =>
        (ps_set nd hi hx ((okE e).val X sc v g.toGE l h2) hs hf').w hfin
      cases hl : isLc v with
      | false => exact plain (sw_no hl _ _ _)
      | true =>
        obtain ⟨elt, gs, scope, pp, rfl⟩ := not_lc h2 hl
        obtain ⟨m, own, t', it, e1, cd, rfl⟩ := ce_lc h2
        obtain ⟨elt', tg', iter, ifs, scope', pp', own', g', tt, eq, hc, _, kI, ok, kT, kC, kE, hs, hT⟩ := comp_pk (okE it) (okE e1) (okE cd) g.toGE l h2
        cases eq
        have e0 : swapsWith (.ListComp elt [⟨tg', iter, ifs, 0⟩] scope pp) (some (.Name x p')) p.line X.env = pure (X.env.blockKind == .function && X.env.kindOf x == some .local && p'.line == pp.line && !(scope.names.any fun (n, k) => n == x && (k == .local || k == .cell))) := rfl
        cases eb : (X.env.blockKind == .function && X.env.kindOf x == some .local && p'.line == pp.line && !(scope.names.any fun (n, k) => n == x && (k == .local || k == .cell))) with
        | false => exact plain (by rw [e0, eb])
        | true =>
          have hl : X.env.scope.names.lookup x = some .local := by
            simp only [Bool.and_eq_true] at eb
            exact beq_iff_eq.mp eb.1.1.2
          refine (ps_setLc (i := i) hc nd hi hl (by rw [e0, eb]) kI ok kT kC kE hs).w fun D σ H q => ?_
          have q2 := hfin D σ H q
          exact hT σ H _ q2
    · -- several
      exact (ps_asg ((okE e).val X sc v g.toGE l h2) hpg (by unfold swapsWithSole swapsWith; cases v <;> rfl) (tup_no h3 _) (by rfl)).w hfin
  | aug i o e =>
    refine ⟨@fun Wx X sc s g l h => ?_, fun _ _ s _ _ h => (by cases s <;> cases h)⟩
    have h' : ∃ x p1 op v p, s = .AugAssign (.Name x p1) op v p ∧ N[i]? = some x ∧ locB sc (fun _ => true) x = true ∧ op = opB o ∧ (o = .add ∨ o = .sub) ∧ ce N e sc v = true := by
      simp only [ceS] at h
      split at h
      · simp only [Bool.and_eq_true, Bool.or_eq_true, decide_eq_true_eq] at h
        exact ⟨_, _, _, _, _, rfl, h.1.1.1.1, h.1.1.1.2, h.1.1.2, h.1.2, h.2⟩
      · cases h
    obtain ⟨x, p1, op, v, p, rfl, h1, h2, rfl, h4, h5⟩ := h'
    have hN := g.hN
    have nd : X.N.Nodup := by rw [hN]; exact g.nd
    have hi : X.N[i]? = some x := by rw [hN]; exact h1
    obtain ⟨hx, hf⟩ := g.toGE.loc h2
    have hf' : X.fn x = true ∨ X.env.scope.names.lookup x = some .local := by rw [g.fn]; exact .inl rfl
    have he := (okE e).val X sc v g.toGE l h5
    have gen : ∀ {f : Int → Int → Int}, PIp X (opB o) (ipI f) → (∀ a b S, binD false o (.int a) (.int b) S = .ok (.int (f a b)) S) → PS X (.AugAssign (.Name x p1) (opB o) v p) (TSt K Wx (denS (.aug i o e))) := fun {f} hp hb =>
      (ps_aug nd hi hx he hp hf').w fun D σ H ⟨W, ρ, S, st, q⟩ => by
        have q : PostS K Wx W (match ρ[i]? with
          | some (some x) => (den e ρ S).st ρ fun y S1 => match x, y with
            | .int _, .int _ => (binD false o x y S1).st ρ fun z S2 => .nx (ρ.set i (some z)) S2
            | _, _ => .no
          | _ => .no) D := q
        cases e1 : ρ[i]? with
        | none => rw [e1] at q; exact q.elim
        | some u =>
          cases u with
          | none => rw [e1] at q; exact q.elim
          | some a =>
            rw [e1] at q
            dsimp only at q
            obtain ⟨y, h6, h7⟩ := st.er.at_ i a e1
            refine ⟨y, h6, T.st st q fun b S1 W1 z L1 s1 rb P1 => ?_⟩
            cases a with
            | int a =>
              cases b with
              | int b =>
                cases h7
                cases rb
                have P1 : PostS K Wx W1 ((binD false o (.int a) (.int b) S1).st ρ fun z S2 => .nx (ρ.set i (some z)) S2) D := P1
                rw [hb] at P1
                exact ⟨a, b, rfl, rfl, P1 W1 _ (Le.refl W1) s1.rep (s1.er.set i (.int _))⟩
              | _ => exact P1.elim
            | _ => exact P1.elim
    rcases h4 with rfl | rfl
    · exact gen ip_add fun _ _ _ => rfl
    · exact gen ip_sub fun _ _ _ => rfl
  | set a i e =>
    refine ⟨@fun Wx X sc s g l h => ?_, fun _ _ s _ _ h => (by cases s <;> cases h)⟩
    have h' : ∃ o k' p1 v p, s = .Assign [.Subscript o k' p1] v p ∧ ce N a sc o = true ∧ ce N i sc k' = true ∧ odd k' = false ∧ ce N e sc v = true := by
      simp only [ceS] at h
      split at h
      · simp only [Bool.and_eq_true, Bool.not_eq_true'] at h
        exact ⟨_, _, _, _, _, rfl, h.1.1.1, h.1.1.2, h.1.2, h.2⟩
      · cases h
    obtain ⟨o, k', p1, v, p, rfl, h1, h2, h3, h4⟩ := h'
    have k1 := (okE a).val X sc o g.toGE l.1 h1
    have k2 := (okE i).val X sc k' g.toGE l.2.1 h2
    have k3 := (okE e).val X sc v g.toGE l.2.2 h4
    have hu := g.toGE.hu
    have hK := g.hK
    obtain ⟨n1, n2⟩ := sub_no (o := o) (i := k') (p := p1) (e := v) X.env p.line
    refine (ps_asg k3 (pg_sub k1 k2 (set_V (by omega)) (asg_sub h3)) n1 n2 (by rfl)).w fun D σ H ⟨W, ρ, S, st, q⟩ => ?_
    rw [hK]
    refine T.st st q fun c S1 W1 z L1 s1 rc P1 => T.st s1 P1 fun x S2 W2 z2 L2 s2 rx P2 => T.st s2 P2 fun y S3 W3 z3 L3 s3 ry P3 => ?_
    cases e5 : setD x y c S3 with
    | none => rw [e5] at P3; exact P3.elim
    | some S4 =>
      rw [e5] at P3
      exact ⟨W3, S3, x, y, c, rfl, s3.rep, rx.mono L3, ry, (rc.mono L2).mono L3, S4, e5, fun W4 L4 R4 => P3 W4 σ L4 R4 (s3.er.mono L4)⟩
  | augS o a i e => exact ⟨fun _ _ s _ _ h => (by cases s <;> cases h), fun _ _ s _ _ h => (by cases s <;> cases h)⟩
  | ex e =>
    refine ⟨@fun Wx X sc s g l h => ?_, fun _ _ s _ _ h => (by cases s <;> cases h)⟩
    cases s with
    | Expr v p =>
      simp only [ceS, Bool.and_eq_true, Bool.not_eq_true'] at h
      refine (ps_expr ((okE e).val X sc v g.toGE l h.1) (sw_no h.2 _ _ _)).w fun D σ H ⟨W, ρ, S, st, q⟩ => ?_
      exact T.st st q fun c S1 W1 z L1 s1 rc P1 => s1.nx P1
    | _ => cases h
  | ret e =>
    refine ⟨@fun Wx X sc s g l h => ?_, fun _ _ s _ _ h => (by cases s <;> cases h)⟩
    cases s with
    | Return v p =>
      cases v with
      | none => cases h
      | some v =>
        refine (ps_ret ((okE e).val X sc v g.toGE l h)).w fun D σ H ⟨W, ρ, S, st, q⟩ => ?_
        exact T.st st q fun c S1 W1 z L1 s1 rc P1 => P1 W1 z (Le.refl W1) s1.rep rc
    | _ => cases h
  | ifs c a b iha ihb =>
    refine ⟨@fun Wx X sc s g l h => ?_, fun _ _ s _ _ h => (by cases s <;> cases h)⟩
    cases s with
    | If t x y p =>
      simp only [ceS, Bool.and_eq_true, Bool.not_eq_true'] at h
      exact (ps_if ((okE c).tst X sc t g.toGE l.1 h.1.1.1 h.1.1.2) (iha.all X sc x g l.2.1 h.1.2) (ihb.all X sc y g l.2.2 h.2)).w fun D σ H q => TB.ifs q
    | _ => cases h
  | whl c b ihb =>
    refine ⟨@fun Wx X sc s g l h => ?_, fun _ _ s _ _ h => (by cases s <;> cases h)⟩
    cases s with
    | While t x el p =>
      cases el with
      | cons _ _ => cases h
      | nil =>
        simp only [ceS, Bool.and_eq_true, Bool.not_eq_true'] at h
        exact (ps_while g.po ((okE c).tst X sc t g.toGE l.1 h.1.1 h.1.2) (ihb.all X sc x g l.2 h.2)).w fun D σ H q => T.whl q
    | _ => cases h
  | «for» t it b ihb =>
    refine ⟨@fun Wx X sc s g l h => ?_, fun _ _ s _ _ h => (by cases s <;> cases h)⟩
    cases s with
    | For tg iter x el p =>
      cases el with
      | cons _ _ => cases h
      | nil =>
        simp only [ceS, Bool.and_eq_true, Bool.not_eq_true'] at h
        have hpg : PG X tg (gOf K t) := by
          have hN := g.hN
          have hK := g.hK
          have q := pg_V (X := X) g.calm (by rw [hN]; exact g.nd) g.scope g.fn t tg (by rw [hN]; exact h.1.1.1)
          rw [hK] at q
          exact q
        exact (ps_for g.po g.calm ((okE it).it X sc tg iter g.toGE l.1 h.1.1.2) hpg (ihb.all X sc x g l.2 h.2) (odd_fold h.1.2)).w fun D σ H q => T.for q
    | _ => cases h
  | lock f a iha =>
    refine ⟨@fun Wx X sc s g l h => ?_, fun _ _ s _ _ h => (by cases s <;> cases h)⟩
    have h' : ceS N sc a s = true := by simpa only [ceS] using h
    exact (ps_lockX fun d od u hn => iha.one X sc s { g with tk := takes_lock (od := od) (u := u) g.tk hn } l h').w fun D σ H q => TSt.lock q
  | tr F a iha =>
    refine ⟨@fun Wx X sc s g l h => ?_, fun _ _ s _ _ h => (by cases s <;> cases h)⟩
    have h : (match F.mat N sc s with
      | some ss => ceSs N sc a ss
      | none => false) = true := h
    cases em : F.mat N sc s with
    | none => rw [em] at h; cases h
    | some ss =>
      rw [em] at h
      exact l.1 N X sc _ s ss _ g em fun X' Wx' g' => iha.all X' sc ss g' l.2 h
  | brk =>
    refine ⟨@fun Wx X sc s g l h => ?_, fun _ _ s _ _ h => (by cases s <;> cases h)⟩
    cases s with
    | Break p =>
      refine ps_break.w fun D σ H ⟨W, ρ, S, st, q⟩ => ?_
      have := q W σ (Le.refl W) st.rep st.er
      rw [st.hH] at this
      exact this
    | _ => cases h
  | cont =>
    refine ⟨@fun Wx X sc s g l h => ?_, fun _ _ s _ _ h => (by cases s <;> cases h)⟩
    cases s with
    | Continue p =>
      refine ps_continue.w fun D σ H ⟨W, ρ, S, st, q⟩ => ?_
      have := q W σ (Le.refl W) st.rep st.er
      rw [st.hH] at this
      exact this
    | _ => cases h
  | pass =>
    refine ⟨@fun Wx X sc s g l h => ?_, fun _ _ s _ _ h => (by cases s <;> cases h)⟩
    cases s with
    | Pass p => exact ps_pass.w fun D σ H ⟨W, ρ, S, st, q⟩ => st.nx q
    | _ => cases h
end

/-! ### behind a call -/
section
variable {K : PySem.W.Frag} {W W' : Wd} {S S' : Store}
mutual
theorem noLoc_und (n : Nat) : ∀ a : AV, a.noLoc = true → a.und n = true
  | .tup l, h => noLocs_unds n l h
  | .lst l, h => noLocs_unds n l h
  | .ktp l, h => noLocs_unds n l h
  | .ftp l, h => noLocs_unds n l h
  | .loc _, h => by cases h
  | .non, _ => rfl
  | .bl _, _ => rfl
  | .int _, _ => rfl
  | .str _, _ => rfl
  | .ty _, _ => rfl
  | .scr _, _ => rfl
theorem noLocs_unds (n : Nat) : ∀ l : List AV, noLocs l = true → unds n l = true
  | [], _ => rfl
  | a :: l, h => by
    have h : (a.noLoc && noLocs l) = true := h
    rw [Bool.and_eq_true] at h
    show (a.und n && unds n l) = true
    rw [noLoc_und n a h.1, noLocs_unds n l h.2]; rfl
end
mutual
theorem RV.und : ∀ {a : AV} {x : V}, RV K W a x → a.und W.n = true
  | _, _, .non => rfl
  | _, _, .bl _ => rfl
  | _, _, .int _ => rfl
  | _, _, .str _ => rfl
  | _, _, .ty _ => rfl
  | _, _, .tup _ _ r => RVs.unds r
  | _, _, .ktup _ r => RVs.unds r
  | _, _, .ftup _ _ _ r => RVs.unds r
  | _, _, .lst _ _ r => RVs.unds r
  | _, _, .loc h => decide_eq_true h
  | _, _, .scr _ _ => rfl
  | _, _, .scl _ _ => rfl
  | _, _, .kscr _ => rfl
theorem RVs.unds : ∀ {l : List AV} {xs : List V}, RVs K W l xs → VI.unds W.n l = true
  | _, _, .nil => rfl
  | _, _, .cons (a := a) (l := l) h r => by
    show (a.und W.n && VI.unds W.n l) = true
    rw [RV.und h, RVs.unds r]; rfl
end
/-- the store cut back to n -/
def Wd.cut (W : Wd) (n : Nat) : Wd := { W with n := n }
theorem Wd.cut_stb {n : Nat} (h : n ≤ W.n) {a : Addr} (s : W.stb a) : (W.cut n).stb a := ⟨s.1, fun i hi => s.2 i (Nat.lt_of_lt_of_le hi h)⟩
mutual
theorem RV.cut {n : Nat} (hn : n ≤ W.n) : ∀ {a : AV} {x : V}, RV K W a x → a.und n = true → RV K (W.cut n) a x
  | _, _, .non, _ => .non
  | _, _, .bl b, _ => .bl b
  | _, _, .int i, _ => .int i
  | _, _, .str x, _ => .str x
  | _, _, .ty n, _ => .ty n
  | _, _, .tup h s r, u => .tup h (Wd.cut_stb hn s) (RVs.cut hn r u)
  | _, _, .ktup h r, u => .ktup h (RVs.cut hn r u)
  | _, _, .ftup h e s r, u => .ftup h e (Wd.cut_stb hn s) (RVs.cut hn r u)
  | _, _, .lst h s r, u => .lst h (Wd.cut_stb hn s) (RVs.cut hn r u)
  | _, _, .loc h, u => .loc (W := W.cut n) (of_decide_eq_true u)
  | _, _, .scr h s, _ => .scr h (Wd.cut_stb hn s)
  | _, _, .scl h s, _ => .scl h (Wd.cut_stb hn s)
  | _, _, .kscr h, _ => .kscr h
theorem RVs.cut {n : Nat} (hn : n ≤ W.n) : ∀ {l : List AV} {xs : List V}, RVs K W l xs → VI.unds n l = true → RVs K (W.cut n) l xs
  | _, _, .nil, _ => .nil
  | _, _, .cons (a := a) (l := l) h r, u => by
    have u : (a.und n && VI.unds n l) = true := u
    rw [Bool.and_eq_true] at u
    exact .cons (RV.cut hn h u.1) (RVs.cut hn r u.2)
end
def AObj.und (n : Nat) : AObj → Bool
  | .lst l => unds n l
  | .dct _ l => unds n (l.map (·.2))
  | .dcT _ l => unds n (l.map (·.2))
  | .ins _ f => unds n (f.map (·.2))
  | .tab _ => true
theorem RO.und {a : Addr} {o : AObj} (h : RO K W a o) : o.und W.n = true := by
  cases o with
  | lst l => obtain ⟨xs, _, r⟩ := h; exact RVs.unds r
  | dct b l => cases b with
    | false => obtain ⟨xs, _, r⟩ := h; exact RVs.unds r.2
    | true => obtain ⟨_, xs, o, _, r⟩ := h; exact RVs.unds r.2
  | dcT b l => cases b with
    | false => obtain ⟨xs, _, r⟩ := h; exact RVs.unds r.2
    | true => obtain ⟨_, xs, o, _, r⟩ := h; exact RVs.unds r.2
  | ins c f => obtain ⟨C, dx, xs, _, _, r⟩ := h; exact RVs.unds r.2
  | tab x => rfl
theorem RO.cut {n : Nat} (hn : n ≤ W.n) {a : Addr} {o : AObj} (h : RO K W a o) (u : o.und n = true) : RO K (W.cut n) a o := by
  cases o with
  | lst l => obtain ⟨xs, e, r⟩ := h; exact ⟨xs, e, r.cut hn u⟩
  | dct b l => cases b with
    | false => obtain ⟨xs, e, r⟩ := h; exact ⟨xs, e, r.1, r.2.cut hn u⟩
    | true => obtain ⟨q, xs, o, e, r⟩ := h; exact ⟨q, xs, o, e, r.1, r.2.cut hn u⟩
  | dcT b l => cases b with
    | false => obtain ⟨xs, e, r⟩ := h; exact ⟨xs, e, r.1, r.2.cut hn u⟩
    | true => obtain ⟨q, xs, o, e, r⟩ := h; exact ⟨q, xs, o, e, r.1, r.2.cut hn u⟩
  | ins c f => obtain ⟨C, dx, xs, e, m, r⟩ := h; exact ⟨C, dx, xs, e, m, r.1, r.2.cut hn u⟩
  | tab x => obtain ⟨m, ps, e, t, r⟩ := h; exact ⟨m, ps, e, t, fun pos cv q => let ⟨c, h1, h2, h3⟩ := r pos cv q; ⟨c, h1, h2, Wd.cut_stb hn h3⟩⟩
theorem AObj.noLoc_und {o : AObj} (n : Nat) (h : o.noLoc = true) : o.und n = true := by
  cases o <;> first | rfl | exact noLocs_unds n _ h
theorem Le.cut (L : Le W W') : Le W (W'.cut W.n) := ⟨Nat.le_refl _, L.φ, L.hid, fun a o e s => let ⟨e1, s1⟩ := L.stb a o e s; ⟨e1, Wd.cut_stb L.n s1⟩, L.hh, L.lk, L.ll⟩
theorem Rep.cut (R : Rep K W S) (L : Le W W') (R' : Rep K W' S') (h : TrOk S S') : Rep K (W'.cut W.n) (S'.take S.length) := by
  have hl := R.len
  have hl' := R'.len
  refine ⟨by rw [List.length_take, hl]; show min W.n S'.length = W.n; have := L.n; omega, fun i j hi hj e => R'.inj i j (Nat.lt_of_lt_of_le hi L.n) (Nat.lt_of_lt_of_le hj L.n) e, fun a q => ⟨(R'.hid a q).1, fun i hi => (R'.hid a q).2 i (Nat.lt_of_lt_of_le hi L.n)⟩, fun i o e => ?_, fun a q => ?_⟩
  rotate_left
  · obtain ⟨i, o, e1, e2, e3⟩ := R.lk a (by rw [← L.lk]; exact q)
    have hi := (List.getElem?_eq_some_iff.mp e1).1
    have hin : i < W.n := by rw [← hl]; exact hi
    obtain ⟨j, u, f1, f2, f3⟩ := R'.lk a q
    have hj : j < W'.n := by rw [← hl']; exact (List.getElem?_eq_some_iff.mp f1).1
    have ij : j = i := R'.inj j i hj (Nat.lt_of_lt_of_le hin L.n) (by rw [f2, L.φ i hin, e2])
    subst ij
    exact ⟨j, u, by rw [List.getElem?_take_of_lt hi]; exact f1, f2, f3⟩
  have hi : i < S.length := by
    have := (List.getElem?_eq_some_iff.mp e).1
    rw [List.length_take] at this; omega
  rw [List.getElem?_take_of_lt hi] at e
  have r := R'.obj i o e
  refine r.cut L.n ?_
  rcases h.2 i hi with q | ⟨o', q, qn⟩
  · have e2 : S[i]? = some o := by rw [← q]; exact e
    exact (R.obj i o e2).und
  · rw [q] at e
    cases e
    exact AObj.noLoc_und _ qn
theorem frz_ok (R' : Rep K W' S') {n : Nat} (hn : n ≤ W'.n) : ∀ (k : Nat) {a b : AV} {x : V}, frz k n S' a = some b → RV K W' a x → RV K (W'.cut n) b x := by
  intro k
  have pure_ : ∀ {a : AV} {x : V}, a.noLoc = true → RV K W' a x → RV K (W'.cut n) a x := fun h r => r.cut hn (noLoc_und n _ h)
  induction k with
  | zero =>
    intro a b x e r
    simp only [frz] at e
    split at e
    · cases e; exact pure_ (by assumption) r
    · cases e
  | succ k ih =>
    intro a b x e r
    have lists : ∀ {l m : List AV} {xs : List V}, l.mapM (frz k n S') = some m → RVs K W' l xs → RVs K (W'.cut n) m xs := by
      intro l
      induction l with
      | nil =>
        intro m xs e r
        cases r
        have e' : m = [] := by simpa using e.symm
        subst e'
        exact .nil
      | cons c l ihl =>
        intro m xs e r
        cases r with
        | cons p t =>
          rw [List.mapM_cons] at e
          cases e1 : frz k n S' c with
          | none => rw [e1] at e; cases e
          | some c' =>
            cases e2 : l.mapM (frz k n S') with
            | none => rw [e1, e2] at e; cases e
            | some l' =>
              rw [e1, e2] at e
              have e' : m = c' :: l' := by simpa using e.symm
              subst e'
              exact .cons (ih e1 p) (ihl e2 t)
    simp only [frz] at e
    split at e
    · cases e; exact pure_ (by assumption) r
    · rename_i hno
      cases a with
      | tup l =>
        dsimp only at e
        cases e2 : l.mapM (frz k n S') with
        | none => rw [e2] at e; cases e
        | some l' =>
          rw [e2] at e
          cases e
          cases r with
          | tup h1 s1 r1 => exact .tup h1 (Wd.cut_stb hn s1) (lists e2 r1)
      | lst l =>
        dsimp only at e
        cases e2 : l.mapM (frz k n S') with
        | none => rw [e2] at e; cases e
        | some l' =>
          rw [e2] at e
          cases e
          cases r with
          | lst h1 s1 r1 => exact .lst h1 (Wd.cut_stb hn s1) (lists e2 r1)
      | loc i =>
        dsimp only at e
        cases r with
        | loc hi =>
          split at e
          · rename_i hin
            cases e
            exact .loc (W := W'.cut n) hin
          · rename_i hin
            cases e1 : S'[i]? with
            | none => simp [e1] at e
            | some o =>
              cases o with
              | lst l =>
                simp only [e1] at e
                cases e2 : l.mapM (frz k n S') with
                | none => rw [e2] at e; cases e
                | some l' =>
                  rw [e2] at e
                  cases e
                  obtain ⟨xs, h1, r1⟩ := R'.obj i _ e1
                  refine .lst h1 ⟨fun q => (R'.hid _ q).2 i hi rfl, fun j hj q => ?_⟩ (lists e2 r1)
                  have hj' : j < n := hj
                  have := R'.inj j i (by omega) hi q
                  omega
              | _ => simp [e1] at e
      | ktp l => cases e
      | ftp l => cases e
      | non => exact absurd rfl hno
      | bl _ => exact absurd rfl hno
      | int _ => exact absurd rfl hno
      | str _ => exact absurd rfl hno
      | ty _ => exact absurd rfl hno
      | scr _ => exact absurd rfl hno
end
end VI

set_option maxRecDepth 100000
set_option maxHeartbeats 2000000
/-! VI12: a def keeps its promise; a law's end. -/
namespace VI
open PySem PySem.Spec PyProof.Rows L2 RZ
section
variable {P : Program} {w : World} {K : PySem.W.Frag} {mg : Str → Option Value} {base : Heap} {k : Nat}
theorem mkFn_ar {keep : Bool} {np n : Nat} {b : St} {as : List AV} {S S' : Store} {r : AV} (h : mkFn keep np n b as S = .ok r S') : as.length = np := by
  unfold mkFn at h
  split at h
  · assumption
  · cases h
theorem fin_post {keep : Bool} {W W' : Wd} {S S1 : Store} {a : AV} {x : V} {Q : VK} (R : Rep K W S) (L : Le W W') (R' : Rep K W' S1) (ra : RV K W' a x) (h : PostO K W (fin keep S a S1) Q) : Q x W'.H := by
  obtain ⟨r, S', e, P⟩ := h
  unfold fin at e
  cases keep with
  | true =>
    rw [if_pos rfl] at e
    cases e
    exact P W' x L R' ra
  | false =>
    rw [if_neg (by decide)] at e
    split at e
    · rename_i ht
      cases e2 : frz 4 S.length S1 a with
      | none => rw [e2] at e; cases e
      | some r' =>
        rw [e2] at e
        cases e
        have hn : W.n ≤ W'.n := L.n
        refine P (W'.cut W.n) x L.cut (R.cut L R' ht) ?_
        rw [R.len] at e2
        exact frz_ok R' hn 4 e2 ra
    · cases e
/-- a def as it stands behind the top, with or without defaults -/
structure FunA (K : PySem.W.Frag) (x qual : Str) (st : Stmt) (f : Addr) (fd : FuncData) : Prop where
  ex : ∃ (oc : Value) (od : Option Addr) (dV kV doc pm : Value) (an : Option Addr) (cdv ct : Value) (osl : Array (Option Value)),
    fd = PySem.W.fnOf x qual (defArgs st) (defBody st) (defScope st) dV kV doc pm an cdv ct ∧ K.lookup f = some ⟨oc, od, .func fd, osl⟩ ∧ PySem.W.codeIn K cdv qual = true
  kp : PySem.W.keepIn K (.ref f) = true
theorem _root_.L2.Fun.a {x qual : Str} {st : Stmt} {f : Addr} {fd : FuncData} (F : Fun K x qual st f fd) : FunA K x qual st f fd :=
  ⟨let ⟨oc, od, kV, doc, pm, an, cdv, ct, osl, h1, h2, h3⟩ := F.ex; ⟨oc, od, .none, kV, doc, pm, an, cdv, ct, osl, h1, h2, h3⟩, F.kp⟩
theorem FunA.go {CX : CXT} {x qual : Str} {st : Stmt} {f : Addr} {fd : FuncData} {N ps : List Str} {k : Nat} {sp : Sp} (F : FunA K x qual st f fd) (S : FnScope N ps (defScope st)) (len : ∀ vs H Q E, sp vs H Q E → vs.length = ps.length)
    (hbody : ∀ (cdv : Value) (A : Around) (outer : List Env) (s : Shared) (H : Hp) (vs : List V) (Q : VK) (E : XK), Room k (A.deeper (envOfC qual (defScope st) s.heap.objs.size f cdv)) → sp vs H Q E →
      ∃ t, PSs (cxOf CX P w K mg base N qual (defScope st) f cdv A outer s H E) (defBody st) t ∧ t { nx := fun _ H' => Q .non H', rt := Q } (L2.start N vs) H) : FnOk P w K mg base CX (k + 1) f fd ps sp := by
  obtain ⟨oc, od, dV, kV, doc, pm, an, cdv, ct, osl, rfl, lk, hcd⟩ := F.ex
  exact fn_of lk hcd S len fun A outer s H vs Q E hr hsp => hbody cdv A outer s H vs Q E hr hsp
theorem FunA.go0 {x qual : Str} {st : Stmt} {f : Addr} {fd : FuncData} {N ps : List Str} {k : Nat} {sp : Sp} (F : FunA K x qual st f fd) (S : FnScope N ps (defScope st)) (len : ∀ vs H Q E, sp vs H Q E → vs.length = ps.length)
    (hbody : ∀ (cdv : Value) (A : Around) (outer : List Env) (s : Shared) (H : Hp) (vs : List V) (Q : VK) (E : XK), Room k (A.deeper (envOfC qual (defScope st) s.heap.objs.size f cdv)) → sp vs H Q E →
      ∃ t, PSs (cxOf CX0 P w K mg base N qual (defScope st) f cdv A outer s H E).nox (defBody st) t ∧ t { nx := fun _ H' => Q .non H', rt := Q } (L2.start N vs) H) : FnOk P w K mg base CX0 (k + 1) f fd ps sp :=
  F.go S len fun cdv A outer s H vs Q E hr hsp => let ⟨t, h, q⟩ := hbody cdv A outer s H vs Q E hr hsp; ⟨t, h.nox, q⟩
theorem fn_ok {keep : Bool} {x qual : Str} {st : Stmt} {f : Addr} {fd : FuncData} {N ps : List Str} {body : St} (F : FunA K x qual st f fd) (Sc : FnScope N ps (defScope st)) (hc : ceSs N (defScope st) body (defBody st) = true)
    (hl : LkS K mg (Fx P w K mg base k) (Go P w K mg base k) body) : FnOk P w K mg base CX0 (k + 1) f fd ps (spOf K (mkFn keep ps.length N.length body)) := by
  refine F.go0 Sc (fun vs H Q E h => ?_) (fun cdv A outer s H vs Q E hr h => ?_)
  · obtain ⟨W, S, as, _, _, rs, r, S', e, _⟩ := h
    rw [← rs.len]; exact mkFn_ar e
  · obtain ⟨W, S, as, rfl, R, rs, PO⟩ := h
    have hlen : as.length = ps.length := by obtain ⟨r, S', e, _⟩ := PO; exact mkFn_ar e
    have g : GS P w K mg base k N (fun _ _ _ _ => False) (cxOf CX0 P w K mg base N qual (defScope st) f cdv A outer s W.H E).nox (defScope st) := ⟨⟨rfl, rfl, rfl, rfl, rfl, rfl, Sc.nd, rfl, hr, rfl⟩, rfl, .never, fun _ _ x => (by obtain ⟨_, _, _, _, _, _, _, _, _, _, _, _, _, _, _, _, z⟩ := x; exact z), rfl, rfl⟩
    refine ⟨_, (okS body).all _ _ _ g hl hc, W, as.map some ++ List.replicate (N.length - ps.length) none, S, ⟨rfl, R, ?_⟩, ?_⟩
    · have hl2 := rs.len
      refine ⟨by unfold L2.start; simp; omega, fun i a e => ?_⟩
      unfold L2.start
      by_cases hi : i < as.length
      · rw [List.getElem?_append_left (by simpa using hi), List.getElem?_map] at e
        rw [List.getElem?_append_left (by simp; omega), List.getElem?_map]
        cases ea : as[i]? with
        | none => rw [ea] at e; cases e
        | some b =>
          rw [ea] at e
          cases e
          obtain ⟨y, h1, h2⟩ := rs.get ea
          exact ⟨y, by rw [h1]; rfl, h2⟩
      · rw [List.getElem?_append_right (by simp; omega), List.getElem?_replicate] at e
        split at e <;> cases e
    · unfold mkFn at PO
      rw [if_pos hlen] at PO
      cases e : denS body (as.map some ++ List.replicate (N.length - ps.length) none) S with
      | rt a S1 => rw [e] at PO; exact fun W' y L R' ry => fin_post R L R' ry PO
      | nx ρ S1 => rw [e] at PO; exact fun W' σ L R' er => fin_post R L R' .non PO
      | ex c ρ S1 =>
        rw [e] at PO
        obtain ⟨r, S', e2, _⟩ := PO
        obtain ⟨_, _, _, e3⟩ := Out.bd_eq e2
        cases e3
      | bk ρ S1 => rw [e] at PO; exact PO.no.elim
      | ct ρ S1 => rw [e] at PO; exact PO.no.elim
      | no => rw [e] at PO; exact PO.no.elim
theorem fx_ok {keep : Bool} {x qual y : Str} {st : Stmt} {f : Addr} {fd : FuncData} {N ps : List Str} {body : St} (F : FunA K x qual st f fd) (hm : mg y = some (.ref f)) (hb : Binds K fd ps []) (Sc : FnScope N ps (defScope st)) (hc : ceSs N (defScope st) body (defBody st) = true)
    (hl : LkS K mg (Fx P w K mg base k) (Go P w K mg base k) body) : Fx P w K mg base (k + 1) y (mkFn keep ps.length N.length body) :=
  ⟨f, fd, ps, hm, F.kp, hb, fun _ _ _ _ e => mkFn_ar e, fn_ok F Sc hc hl⟩
theorem Fx.mono {j : Nat} {y : Str} {d : Fn} (h : Fx P w K mg base j y d) (hk : j ≤ k) : Fx P w K mg base k y d :=
  let ⟨f, fd, ps, h1, h2, h3, h4, h5⟩ := h; ⟨f, fd, ps, h1, h2, h3, h4, h5.mono hk⟩
/-! ### defs that may raise -/
/-- .. its promise -/
def spX (K : PySem.W.Frag) (d : Fn) : Sp := fun vs H Q E => ∃ W S as, W.H = H ∧ Rep K W S ∧ RVs K W as vs ∧ PostOX K W E (d as S) Q
theorem spOf.x {K : PySem.W.Frag} {d : Fn} {vs : List V} {H : Hp} {Q : VK} {E E' : XK} (h : spOf K d vs H Q E) : spX K d vs H Q E' := by
  obtain ⟨W, S, as, h1, h2, h3, r, S', e, p⟩ := h
  exact ⟨W, S, as, h1, h2, h3, by rw [e]; exact p⟩
theorem PostOX.ne {W : Wd} {E : XK} {o : Out AV} {Q : VK} (h : PostOX K W E o Q) : o ≠ .no := by
  rintro rfl
  exact h
theorem XR.cut {W : Wd} {n : Nat} (hn : n ≤ W.n) {c : AV} {cls : Value} {d : Option Addr} (h : XR K W c cls d) : XR K (W.cut n) c cls d := by
  unfold XR at h ⊢
  split at h
  · exact h
  · obtain ⟨C, dx, h1, h2, h3, h4, h5⟩ := h
    exact ⟨C, dx, h1, h2, h3, h4, Wd.cut_stb hn h5⟩
  · exact h
theorem XR.nl {W : Wd} {c : AV} {cls : Value} {d : Option Addr} (h : XR K W c cls d) : c.noLoc = true := by
  unfold XR at h
  split at h
  · rfl
  · rfl
  · exact h.elim
/-- the def that stands at a name may raise -/
def FxE (P : Program) (w : World) (K : PySem.W.Frag) (mg : Str → Option Value) (base : Heap) (k : Nat) (x : Str) (d : Fn) : Prop :=
  ∃ f fd ps, mg x = some (.ref f) ∧ PySem.W.keepIn K (.ref f) = true ∧ Binds K fd ps [] ∧ (∀ as S r S', d as S = .ok r S' → as.length = ps.length) ∧ FnOk P w K mg base (L2N.CX P w) k f fd ps (spX K d)
theorem FxE.mono {j : Nat} {y : Str} {d : Fn} (h : FxE P w K mg base j y d) (hk : j ≤ k) : FxE P w K mg base k y d :=
  let ⟨f, fd, ps, h1, h2, h3, h4, h5⟩ := h; ⟨f, fd, ps, h1, h2, h3, h4, h5.mono hk⟩
end
/-- the law holds of the script -/
theorem law_sp {d : Fn} (h : ∀ ns : List Int, ns.length ≤ 63 → ∃ S', d [.scr ns] [] = .ok (.bl true) S') (K : PySem.W.Frag) (H : Hp) (a : Addr) (ns : List Int) (hn : ns.length ≤ 63) (hO : Only H) (hS : SqL K H a (ns.map V.int)) :
    spOf K d [.ref a] H (fun v _ => v = .bl true) fun _ _ _ => False := by
  obtain ⟨S', e⟩ := h ns hn
  refine ⟨⟨fun _ => 0, 0, fun _ => False, H, fun _ => False⟩, [], [.scr ns], rfl, ⟨rfl, fun i j hi => absurd hi (Nat.not_lt_zero _), fun a q => q.elim, fun i o q => by simp at q, fun a q => q.elim⟩, .cons ?_ .nil, .bl true, S', e, fun W' x _ _ r => by cases r; rfl⟩
  rcases hS with (hS | ⟨o, hS⟩) | ⟨o, its, n, h1⟩
  · rcases hO a with q | ⟨o, xs, q⟩
    · rw [q] at hS; cases hS
    · rw [q] at hS; cases hS
  · exact .scr hS ⟨fun q => q, fun i hi => absurd hi (Nat.not_lt_zero _)⟩
  · exact .kscr fun H' => .inr ⟨o, its, n, h1⟩
end VI

set_option maxRecDepth 100000
/-! VI13: what a piece of our language surely does: rules to reckon with. -/
namespace VI
open PySem L2
section
variable {α β : Type}
def wp (x : Out α) (Q : α → Store → Prop) : Prop := ∃ a S, x = .ok a S ∧ Q a S
@[simp] theorem wp_ok (a : α) (S : Store) (Q : α → Store → Prop) : wp (.ok a S) Q = Q a S := by
  refine propext ⟨?_, fun h => ⟨_, _, rfl, h⟩⟩
  rintro ⟨_, _, e, h⟩
  cases e
  exact h
@[simp] theorem wp_no (Q : α → Store → Prop) : wp .no Q = False := by
  refine propext ⟨?_, False.elim⟩
  rintro ⟨_, _, e, h⟩
  cases e
@[simp] theorem wp_ex (c : AV) (S : Store) (Q : α → Store → Prop) : wp (.ex c S) Q = False := by
  refine propext ⟨?_, False.elim⟩
  rintro ⟨_, _, e, h⟩
  cases e
@[simp] theorem wp_bd (x : Out α) (f : α → Store → Out β) (Q : β → Store → Prop) : wp (x.bd f) Q = wp x fun a S => wp (f a S) Q := by
  cases x <;> simp
theorem wp.mono {x : Out α} {Q R : α → Store → Prop} (h : wp x Q) (k : ∀ a S, Q a S → R a S) : wp x R := let ⟨a, S, e, q⟩ := h; ⟨a, S, e, k _ _ q⟩
@[simp] theorem wp_ite (c : Prop) [Decidable c] (x : Out α) (Q : α → Store → Prop) : wp (if c then x else .no) Q = (c ∧ wp x Q) := by
  by_cases h : c <;> simp [h]
@[simp] theorem wp_optD (o : Option β) (f : β → Out α) (Q : α → Store → Prop) : wp (optD o f) Q = ∃ a, o = some a ∧ wp (f a) Q := by
  cases o <;> simp
@[simp] theorem wp_outB (o : Option Bool) (S : Store) (Q : AV → Store → Prop) : wp (outB o S) Q = ∃ b, o = some b ∧ Q (.bl b) S := by
  cases o <;> simp [outB]
end

def optV (o : Option (Option AV)) (S : Store) : Out AV := match o with
  | some (some a) => .ok a S
  | _ => .no
@[simp] theorem optV_some (a : AV) (S : Store) : optV (some (some a)) S = .ok a S := rfl
section
variable (ρ : Ev) (S : Store) (Q : AV → Store → Prop)
@[simp] theorem d_v (i : Nat) : den (.v i) ρ S = optV ρ[i]? S := by
  rw [den]
  rcases ρ[i]? with _ | _ | a <;> rfl
@[simp] theorem d_c (a : AV) : den (.c a) ρ S = .ok a S := by rw [den]
@[simp] theorem d_g (x : Str) (a : AV) : den (.g x a) ρ S = .ok a S := by rw [den]
@[simp] theorem d_bt (n : String) : den (.bt n) ρ S = .ok (.ty n) S := by rw [den]
@[simp] theorem d_nop : den .nop ρ S = .ok .non S := by rw [den]
@[simp] theorem d_bin (m : Bool) (o : BOp) (a b : E) : wp (den (.bin m o a b) ρ S) Q = wp (den a ρ S) fun x S1 => wp (den b ρ S1) fun y S2 => wp (binD m o x y S2) Q := by rw [den]; simp
@[simp] theorem d_neg (a : E) : wp (den (.neg a) ρ S) Q = wp (den a ρ S) fun x S1 => ∃ i, x = .int i ∧ Q (.int (-i)) S1 := by
  rw [den, wp_bd]
  congr 1
  funext x S1
  cases x <;> simp
@[simp] theorem d_not (a : E) : wp (den (.not a) ρ S) Q = wp (den a ρ S) fun x S1 => ∃ b, truth S1 x = some b ∧ Q (.bl (!b)) S1 := by
  rw [den, wp_bd]
  congr 1
  funext x S1
  rcases truth S1 x with _ | _ | _ <;> simp
@[simp] theorem d_cmp (o : COp) (a b : E) : wp (den (.cmp o a b) ρ S) Q = wp (den a ρ S) fun x S1 => wp (den b ρ S1) fun y S2 => ∃ t, cmpD o x y S2 = some t ∧ Q (.bl t) S2 := by rw [den]; simp
@[simp] theorem d_cmx (F : FormC) (a b : E) : wp (den (.cmx F a b) ρ S) Q = wp (den a ρ S) fun x S1 => wp (den b ρ S1) fun y S2 => wp (F.sem x y S2) Q := by rw [den]; simp
@[simp] theorem d_chain (o p : COp) (a b c : E) : wp (den (.chain o p a b c) ρ S) Q = wp (den a ρ S) fun x S1 => wp (den b ρ S1) fun y S2 => ∃ t, cmpD o x y S2 = some t ∧ (t = true → wp (den c ρ S2) fun z S3 => ∃ u, cmpD p y z S3 = some u ∧ Q (.bl u) S3) ∧ (t = false → Q (.bl false) S2) := by
  rw [den]; simp only [wp_bd]
  congr 1; funext x S1; congr 1; funext y S2
  cases cmpD o x y S2 with
  | none => simp
  | some t => cases t <;> simp
@[simp] theorem d_and (a b : E) : wp (den (.and a b) ρ S) Q = wp (den a ρ S) fun x S1 => ∃ t, truth S1 x = some t ∧ (t = true → wp (den b ρ S1) Q) ∧ (t = false → Q x S1) := by
  rw [den, wp_bd]; congr 1; funext x S1
  cases truth S1 x with
  | none => simp
  | some t => cases t <;> simp
@[simp] theorem d_or (a b : E) : wp (den (.or a b) ρ S) Q = wp (den a ρ S) fun x S1 => ∃ t, truth S1 x = some t ∧ (t = true → Q x S1) ∧ (t = false → wp (den b ρ S1) Q) := by
  rw [den, wp_bd]; congr 1; funext x S1
  cases truth S1 x with
  | none => simp
  | some t => cases t <;> simp
@[simp] theorem d_ite (c a b : E) : wp (den (.ite c a b) ρ S) Q = wp (den c ρ S) fun x S1 => ∃ t, truth S1 x = some t ∧ (t = true → wp (den a ρ S1) Q) ∧ (t = false → wp (den b ρ S1) Q) := by
  rw [den, wp_bd]; congr 1; funext x S1
  cases truth S1 x with
  | none => simp
  | some t => cases t <;> simp
@[simp] theorem d_tup (l : E) : wp (den (.tup l) ρ S) Q = wp (denL l ρ S) fun xs S1 => xs.length ≤ sizeLine ∧ Q (.tup xs) S1 := by rw [den]; simp
@[simp] theorem d_lst (m : Bool) (l : E) : wp (den (.lst m l) ρ S) Q = wp (denL l ρ S) fun xs S1 => xs.length ≤ sizeLine ∧ wp (mkL m xs S1) Q := by rw [den]; simp
@[simp] theorem d_ix (a i : E) : wp (den (.ix a i) ρ S) Q = wp (den a ρ S) fun x S1 => wp (den i ρ S1) fun y S2 => wp (ixD x y S2) Q := by rw [den]; simp
@[simp] theorem d_rev (m : Bool) (a : E) : wp (den (.rev m a) ρ S) Q = wp (den a ρ S) fun x S1 => wp (revD m x S1) Q := by rw [den]; simp
@[simp] theorem d_call (x : Str) (d : Fn) (l : E) : wp (den (.call x d l) ρ S) Q = wp (denL l ρ S) fun xs S1 => wp (d xs S1) Q := by rw [den]; simp
@[simp] theorem d_prim (m : Bool) (p : Prim) (l : E) : wp (den (.prim m p l) ρ S) Q = wp (denL l ρ S) fun xs S1 => wp (primD m p xs S1) Q := by rw [den]; simp
@[simp] theorem d_met (m : Bool) (p : Mth) (r l : E) : wp (den (.met m p r l) ρ S) Q = wp (den r ρ S) fun x S1 => rcvOk p S1 x = true ∧ wp (denL l ρ S1) fun xs S2 => wp (mthD m p x xs S2) Q := by rw [den]; simp
@[simp] theorem d_comp (m : Bool) (own : List Nat) (t : Tg) (it e cd : E) : wp (den (.comp m own t it e cd) ρ S) Q = wp (denI it ρ S) fun w S1 => wp (compD t (fun ρ S => den e ρ S) (cdD cd.isNop fun ρ S => den cd ρ S) w.2 (wipeE ρ own) w.1 S1) fun l S2 => wp (mkL m l S2) Q := by rw [den]; simp
@[simp] theorem d_lrg (m : Bool) (a : E) : wp (den (.lrg m a) ρ S) Q = wp (den a ρ S) fun x S1 => ∃ j, x = .int j ∧ (-(2 ^ 60) ≤ j ∧ j ≤ 10000000) ∧ wp (mkL m ((List.range j.toNat).map fun (k : Nat) => .int k) S1) Q := by
  rw [den, wp_bd]; congr 1; funext x S1
  cases x <;> simp
@[simp] theorem d_lrg2 (m : Bool) (a b : E) : wp (den (.lrg2 m a b) ρ S) Q = wp (den a ρ S) fun x S1 => wp (den b ρ S1) fun y S2 => ∃ i j, x = .int i ∧ y = .int j ∧ (-(2 ^ 60) ≤ i ∧ i ≤ 2 ^ 60 ∧ -(2 ^ 60) ≤ j ∧ j ≤ 2 ^ 60 ∧ j - i ≤ 10000000) ∧ wp (mkL m ((List.range (j - i).toNat).map fun (k : Nat) => .int (i + k)) S2) Q := by
  rw [den, wp_bd]; congr 1; funext x S1
  rw [wp_bd]; congr 1; funext y S2
  cases x <;> cases y <;> simp
@[simp] theorem d_lrg3 (m : Bool) (a b c : E) : wp (den (.lrg3 m a b c) ρ S) Q = wp (den a ρ S) fun x S1 => wp (den b ρ S1) fun y S2 => wp (den c ρ S2) fun z S3 => ∃ i j k, x = .int i ∧ y = .int j ∧ z = .int k ∧ (-(2 ^ 60) ≤ i ∧ i ≤ 2 ^ 60 ∧ -(2 ^ 60) ≤ j ∧ j ≤ 2 ^ 60 ∧ j - i ≤ 10000000 ∧ 0 < k ∧ k ≤ 1000000) ∧ wp (mkL m ((List.range (rgN i j k)).map fun (t : Nat) => .int (i + t * k)) S3) Q := by
  rw [den, wp_bd]; congr 1; funext x S1
  rw [wp_bd]; congr 1; funext y S2
  rw [wp_bd]; congr 1; funext z S3
  cases x <;> cases y <;> cases z <;> simp
@[simp] theorem d_sset (m : Bool) (a : E) : wp (den (.sset m a) ρ S) Q = wp (den a ρ S) fun x S1 => wp (intsQ S1 x fun ns => if ns.length < 61 then mkL m ((sortI (dedI ns)).map .int) S1 else .no) Q := by
  rw [den, wp_bd]
@[simp] theorem prt_int (i : Int) (S : Store) (b : Bool) : prt b (.ok (.int i) S) = .ok (.int i) S := by cases b <;> rfl
@[simp] theorem prt_t (x : Out AV) : prt true x = x := rfl
@[simp] theorem d_sl (m : Bool) (a lo hi : E) : wp (den (.sl m a lo hi) ρ S) Q = wp (den a ρ S) fun x S1 => wp (prt lo.isNop (den lo ρ S1)) fun y S2 => wp (prt hi.isNop (den hi ρ S2)) fun z S3 => wp (slD m x y z S3) Q := by rw [den]; simp
@[simp] theorem dL_nil : denL .nil ρ S = .ok [] S := by rw [denL]
@[simp] theorem dL_cons (a r : E) (R : List AV → Store → Prop) : wp (denL (.cons a r) ρ S) R = wp (den a ρ S) fun x S1 => wp (denL r ρ S1) fun xs S2 => R (x :: xs) S2 := by rw [denL]; simp
@[simp] theorem wp_tru (x : Out AV) : wp (truD x) Q = wp x fun a S => ∃ t, truth S a = some t ∧ Q (.bl t) S := by unfold truD; simp
variable (R : (List AV × List (Nat × List AV)) → Store → Prop)
/-- what a walk over a value goes through -/
def walkOf (S : Store) : AV → Option (List AV × List (Nat × List AV))
  | .loc i => match S[i]? with
    | some (.lst l) => some (l, [(i, l)])
    | _ => none
  | .str z => some (z.cps.toList.map fun c => .str ⟨#[c]⟩, [])
  | x => (itemsOf S x).map fun l => (l, [])
def okO {α : Type} (o : Option α) (S : Store) : Out α := match o with
  | some a => .ok a S
  | none => .no
@[simp] theorem okO_s {α : Type} (a : α) (S : Store) : okO (some a) S = .ok a S := rfl
theorem wp_okO {α : Type} (o : Option α) (S : Store) (Q : α → Store → Prop) : wp (okO o S) Q = ∃ a, o = some a ∧ Q a S := by
  cases o <;> simp [okO]
@[simp] theorem dI_v (e : E) : wp (denI (.itv e) ρ S) R = wp (den e ρ S) fun x S1 => wp (okO (walkOf S1 x) S1) R := by
  simp only [wp_okO]
  rw [denI, wp_bd]; congr 1; funext x S1
  cases x <;> simp only [walkOf, itemsOf, wp_ok, wp_no, Option.map_some, Option.map_none, Option.some.injEq, exists_eq_left', reduceCtorEq, false_and, exists_false]
  rename_i i
  cases h : S1[i]? with
  | none => simp
  | some o => cases o <;> simp only [wp_ok, wp_no, Option.some.injEq, exists_eq_left', reduceCtorEq, false_and, exists_false]
@[simp] theorem dI_1 (a : E) : wp (denI (.it1 a) ρ S) R = wp (den a ρ S) fun x S1 => ∃ j, x = .int j ∧ (j ≤ 2 ^ 60 ∧ -(2 ^ 60) ≤ j) ∧ R ((List.range j.toNat).map fun (k : Nat) => .int k, []) S1 := by
  rw [denI, wp_bd]; congr 1; funext x S1
  cases x <;> simp
@[simp] theorem dI_2 (a b : E) : wp (denI (.it2 a b) ρ S) R = wp (den a ρ S) fun x S1 => wp (den b ρ S1) fun y S2 => ∃ i j, x = .int i ∧ y = .int j ∧ (j ≤ 2 ^ 60 ∧ -(2 ^ 60) ≤ j ∧ i ≤ 2 ^ 60 ∧ -(2 ^ 60) ≤ i) ∧ R ((List.range (j - i).toNat).map fun (k : Nat) => .int (i + k), []) S2 := by
  rw [denI, wp_bd]; congr 1; funext x S1
  rw [wp_bd]; congr 1; funext y S2
  cases x <;> cases y <;> simp
@[simp] theorem dI_3 (a b c : E) : wp (denI (.it3 a b c) ρ S) R = wp (den a ρ S) fun x S1 => wp (den b ρ S1) fun y S2 => wp (den c ρ S2) fun z S3 => ∃ i j, x = .int i ∧ y = .int j ∧ z = .int (-1) ∧ (j ≤ 2 ^ 60 ∧ -(2 ^ 60) ≤ j ∧ i ≤ 2 ^ 60 ∧ -(2 ^ 60) ≤ i) ∧ R ((List.range (i - j).toNat).map fun (k : Nat) => .int (i - k), []) S3 := by
  rw [denI, wp_bd]; congr 1; funext x S1
  rw [wp_bd]; congr 1; funext y S2
  rw [wp_bd]; congr 1; funext z S3
  cases x <;> cases y <;> cases z <;> simp
  rename_i i j k
  by_cases hk : k = -1
  · subst hk; simp
  · simp [hk]
@[simp] theorem dI_en (e : E) : wp (denI (.ien e) ρ S) R = wp (den e ρ S) fun x S1 => wp (enD x S1) R := by
  rw [denI]; simp
end

/-- a block's end -/
def ws (o : OS) (N : Ev → Store → Prop) (R : AV → Store → Prop) (C B : Ev → Store → Prop) : Prop := match o with
  | .nx ρ S => N ρ S
  | .rt a S => R a S
  | .ct ρ S => C ρ S
  | .bk ρ S => B ρ S
  | _ => False
section
variable (ρ : Ev) (S : Store) (N : Ev → Store → Prop) (R : AV → Store → Prop) (C B : Ev → Store → Prop)
@[simp] theorem ws_nx : ws (.nx ρ S) N R C B = N ρ S := rfl
@[simp] theorem ws_rt (a : AV) : ws (.rt a S) N R C B = R a S := rfl
@[simp] theorem ws_ct : ws (.ct ρ S) N R C B = C ρ S := rfl
@[simp] theorem ws_bk : ws (.bk ρ S) N R C B = B ρ S := rfl
@[simp] theorem ws_no : ws .no N R C B = False := rfl
@[simp] theorem ws_ex (c : AV) : ws (.ex c ρ S) N R C B = False := rfl
@[simp] theorem ws_st (x : Out AV) (f : AV → Store → OS) : ws (x.st ρ f) N R C B = wp x fun a S => ws (f a S) N R C B := by
  cases x <;> simp
@[simp] theorem s_nil : ws (denS .nil ρ S) N R C B = N ρ S := by rw [denS]; simp
@[simp] theorem s_cons (s r : St) : ws (denS (.cons s r) ρ S) N R C B = ws (denS s ρ S) (fun ρ1 S1 => ws (denS r ρ1 S1) N R C B) R C B := by
  rw [denS]
  cases denS s ρ S <;> simp
@[simp] theorem s_asg (t : Tg) (e : E) : ws (denS (.asg t e) ρ S) N R C B = wp (den e ρ S) fun a S1 => ∃ ρ1, tgD t a ρ = some ρ1 ∧ N ρ1 S1 := by
  rw [denS, ws_st]; congr 1; funext a S1
  cases tgD t a ρ <;> simp
@[simp] theorem s_aug (i : Nat) (o : BOp) (e : E) : ws (denS (.aug i o e) ρ S) N R C B = ∃ x, ρ[i]? = some (some x) ∧ wp (den e ρ S) fun y S1 => ∃ k l, x = .int k ∧ y = .int l ∧ wp (binD false o (.int k) (.int l) S1) fun z S2 => N (ρ.set i (some z)) S2 := by
  rw [denS]
  cases h : ρ[i]? with
  | none => simp
  | some x => cases x with
    | none => simp
    | some x =>
      simp only [ws_st, Option.some.injEq, exists_eq_left']
      congr 1; funext y S1
      cases x <;> cases y <;> simp
@[simp] theorem s_set (a i e : E) : ws (denS (.set a i e) ρ S) N R C B = wp (den e ρ S) fun v S1 => wp (den a ρ S1) fun x S2 => wp (den i ρ S2) fun y S3 => ∃ S4, setD x y v S3 = some S4 ∧ N ρ S4 := by
  rw [denS, ws_st]; congr 1; funext v S1
  rw [ws_st]; congr 1; funext x S2
  rw [ws_st]; congr 1; funext y S3
  cases setD x y v S3 <;> simp
@[simp] theorem s_ex (e : E) : ws (denS (.ex e) ρ S) N R C B = wp (den e ρ S) fun _ S1 => N ρ S1 := by rw [denS]; simp
@[simp] theorem s_ret (e : E) : ws (denS (.ret e) ρ S) N R C B = wp (den e ρ S) fun a S1 => R a S1 := by rw [denS]; simp
@[simp] theorem s_ifs (c : E) (a b : St) : ws (denS (.ifs c a b) ρ S) N R C B = wp (den c ρ S) fun x S1 => ∃ t, truth S1 x = some t ∧ (t = true → ws (denS a ρ S1) N R C B) ∧ (t = false → ws (denS b ρ S1) N R C B) := by
  rw [denS, ws_st, wp_tru]; congr 1; funext x S1
  cases truth S1 x with
  | none => simp
  | some t => cases t <;> simp
@[simp] theorem s_for (t : Tg) (it : E) (b : St) : ws (denS (.for t it b) ρ S) N R C B = wp (denI it ρ S) fun w S1 => ws (forD t (fun ρ S => denS b ρ S) w.2 w.1 ρ S1) N R C B := by
  rw [denS]
  cases denI it ρ S <;> simp
@[simp] theorem s_whl (c : E) (b : St) : ws (denS (.whl c b) ρ S) N R C B = ws (whlD (fun ρ S => truD (den c ρ S)) (fun ρ S => denS b ρ S) ρ S) N R C B := by rw [denS]
@[simp] theorem s_brk : ws (denS .brk ρ S) N R C B = B ρ S := by rw [denS]; simp
@[simp] theorem s_cont : ws (denS .cont ρ S) N R C B = C ρ S := by rw [denS]; simp
@[simp] theorem s_pass : ws (denS .pass ρ S) N R C B = N ρ S := by rw [denS]; simp
end
theorem ws.mono {o : OS} {N N' : Ev → Store → Prop} {R R' : AV → Store → Prop} {C C' B B' : Ev → Store → Prop} (h : ws o N R C B) (hN : ∀ ρ S, N ρ S → N' ρ S) (hR : ∀ ρ S, R ρ S → R' ρ S) (hC : ∀ ρ S, C ρ S → C' ρ S) (hB : ∀ ρ S, B ρ S → B' ρ S) : ws o N' R' C' B' := by
  cases o <;> simp_all
/-- one statement first, what comes behind it unseen -/
theorem ws_cons {s r : St} {ρ : Ev} {S : Store} {N : Ev → Store → Prop} {R : AV → Store → Prop} {C B : Ev → Store → Prop} (h : ∀ M : Ev → Store → Prop, (∀ ρ1 S1, ws (denS r ρ1 S1) N R C B → M ρ1 S1) → ws (denS s ρ S) M R C B) : ws (denS (.cons s r) ρ S) N R C B := by
  rw [s_cons]
  exact h _ fun _ _ q => q
theorem ws_seq {s r : St} {ρ : Ev} {S : Store} {N : Ev → Store → Prop} {R : AV → Store → Prop} {C B : Ev → Store → Prop} (I : Ev → Store → Prop) (h : ∀ M : Ev → Store → Prop, (∀ ρ S, I ρ S → M ρ S) → ws (denS s ρ S) M R C B) (k : ∀ ρ1 S1, I ρ1 S1 → ws (denS r ρ1 S1) N R C B) : ws (denS (.cons s r) ρ S) N R C B := by
  rw [s_cons]
  exact (h I fun _ _ q => q).mono k (fun _ _ q => q) (fun _ _ q => q) (fun _ _ q => q)

/-- a walk over a list: what holds behind k of its items -/
theorem wp_for {t : Tg} {b : Ev → Store → OS} {gs : List (Nat × List AV)} {N : Ev → Store → Prop} {R : AV → Store → Prop} {C B : Ev → Store → Prop} (I : Nat → Ev → Store → Prop) {l : List AV} {ρ : Ev} {S : Store} (h0 : I 0 ρ S)
    (hg : ∀ k ρ S, I k ρ S → Gd gs S)
    (hs : ∀ k a ρ S, l[k]? = some a → I k ρ S → ∃ ρ1, tgD t a ρ = some ρ1 ∧ ws (b ρ1 S) (I (k + 1)) R (I (k + 1)) N) (he : ∀ ρ S, I l.length ρ S → N ρ S) : ws (forD t b gs l ρ S) N R C B := by
  induction l generalizing ρ S I with
  | nil => rw [forD, if_pos (hg _ _ _ h0)]; exact he _ _ h0
  | cons a l ih =>
    rw [forD, if_pos (hg _ _ _ h0)]
    obtain ⟨ρ1, e1, h1⟩ := hs 0 a ρ S rfl h0
    rw [e1]
    show ws (match b ρ1 S with | .nx ρ2 S2 => _ | .ct ρ2 S2 => _ | .bk ρ2 S2 => _ | o => o) N R C B
    have go : ∀ ρ2 S2, I 1 ρ2 S2 → ws (forD t b gs l ρ2 S2) N R C B := fun ρ2 S2 q => ih (fun k => I (k + 1)) q (fun k => hg (k + 1)) (fun k a ρ S hk => hs (k + 1) a ρ S (by simpa using hk)) he
    cases e : b ρ1 S with
    | nx ρ2 S2 => rw [e] at h1; exact go _ _ h1
    | ct ρ2 S2 => rw [e] at h1; exact go _ _ h1
    | bk ρ2 S2 => rw [e] at h1; exact h1
    | rt a S2 => rw [e] at h1; exact h1
    | ex c ρ2 S2 => rw [e] at h1; exact h1
    | no => rw [e] at h1; exact h1
/-- a comprehension that changes nothing -/
theorem comp_pure {α : Type} {t : Tg} {e cd : Ev → Store → Out AV} {gs : List (Nat × List AV)} {ρ : Ev} {S : Store} (c : α → AV) (p : α → Bool) (f : α → AV) (hg : Gd gs S) :
    ∀ xs : List α, xs.length ≤ sizeLine → (∀ a ∈ xs, ∃ ρ1, tgD t (c a) ρ = some ρ1 ∧ wp (cd ρ1 S) (fun v S1 => v = .bl (p a) ∧ S1 = S) ∧ (p a = true → wp (e ρ1 S) fun v S1 => v = f a ∧ S1 = S)) →
      compD t e cd gs ρ (xs.map c) S = .ok ((xs.filter p).map f) S
  | [], _, _ => by rw [List.map_nil, compD, if_pos hg]; rfl
  | a :: xs, hl, h => by
    simp only [List.length_cons] at hl
    have ih := comp_pure (t := t) (ρ := ρ) (e := e) (cd := cd) c p f hg xs (by omega) fun a ha => h a (.tail _ ha)
    obtain ⟨ρ1, e1, ⟨v, S1, e2, rfl, rfl⟩, h3⟩ := h a (.head _)
    rw [List.map_cons, compD, if_pos hg, e1]
    simp only [e2, bd_ok]
    cases hp : p a with
    | false => simp only [ih]; rw [List.filter_cons_of_neg (by simp [hp])]
    | true =>
      obtain ⟨v, S1, e4, rfl, rfl⟩ := h3 hp
      simp only [e4, bd_ok, ih]
      rw [List.filter_cons_of_pos hp, if_pos]
      · rfl
      · have := List.length_filter_le p xs
        simp only [List.length_map]; omega
/-- what a call gives back -/
def Fin (S : Store) (r : AV) (S' : Store) (Q : AV → Store → Prop) : Prop := TrOk S S' ∧ ∃ r', frz 4 S.length S' r = some r' ∧ Q r' (S'.take S.length)
theorem wp_fn {np n : Nat} {b : St} {as : List AV} {S : Store} {Q : AV → Store → Prop} (h : as.length = np) (k : ws (denS b (as.map some ++ List.replicate (n - np) none) S) (fun _ S' => Fin S .non S' Q) (fun r S' => Fin S r S' Q) (fun _ _ => False) fun _ _ => False) : wp (mkFn false np n b as S) Q := by
  unfold mkFn
  rw [if_pos h]
  cases e : denS b (as.map some ++ List.replicate (n - np) none) S <;> rw [e] at k
  all_goals first
    | exact False.elim k
    | (obtain ⟨k1, r', k2, k3⟩ := k
       simp only [fin]
       rw [if_neg (by decide), if_pos k1]
       simp only [k2, wp_ok]
       exact k3)
theorem wp_fnK {np n : Nat} {b : St} {as : List AV} {S : Store} {Q : AV → Store → Prop} (h : as.length = np) (k : ws (denS b (as.map some ++ List.replicate (n - np) none) S) (fun _ S' => Q .non S') (fun r S' => Q r S') (fun _ _ => False) fun _ _ => False) : wp (mkFn true np n b as S) Q := by
  unfold mkFn
  rw [if_pos h]
  cases e : denS b (as.map some ++ List.replicate (n - np) none) S <;> rw [e] at k
  all_goals first
    | exact False.elim k
    | (simp only [fin, if_pos, wp_ok]; exact k)
theorem Fin.pure {S : Store} {r : AV} {Q : AV → Store → Prop} (h : r.noLoc = true) (q : Q r S) : Fin S r S Q :=
  ⟨⟨Nat.le_refl _, fun i _ => .inl rfl⟩, r, frz_of h, by simpa using q⟩
theorem Fin.setA {S T : Store} {r : AV} {i : Nat} {o : AObj} {Q : AV → Store → Prop} (h : r.noLoc = true) (ho : o.noLoc = true) (q : Q r (S.set i o)) : Fin S r (S.set i o ++ T) Q := by
  refine ⟨⟨by simp, fun j hj => ?_⟩, r, frz_of h, ?_⟩
  · rw [List.getElem?_append_left (by simpa using hj), List.getElem?_set]
    split
    · rename_i e; subst e
      rw [if_pos hj]; exact .inr ⟨_, rfl, ho⟩
    · exact .inl rfl
  · have := List.take_left' (l₁ := S.set i o) (l₂ := T) (i := S.length) (by simp)
    rw [this]; exact q
theorem Fin.set {S : Store} {r : AV} {i : Nat} {o : AObj} {Q : AV → Store → Prop} (h : r.noLoc = true) (ho : o.noLoc = true) (q : Q r (S.set i o)) : Fin S r (S.set i o) Q := by
  have := Fin.setA (T := []) h ho q
  simpa using this
end VI

set_option maxRecDepth 100000
/-! VI14: what the single steps of our language do, one by one. -/
namespace VI
open PySem L2
section
variable (m : Bool) (S : Store) (i j : Int) (Q : AV → Store → Prop)
@[simp] theorem b_add : binD m .add (.int i) (.int j) S = .ok (.int (i + j)) S := rfl
@[simp] theorem b_sub : binD m .sub (.int i) (.int j) S = .ok (.int (i - j)) S := rfl
@[simp] theorem b_mul : binD m .mul (.int i) (.int j) S = if Fit i ∧ Fit j then .ok (.int (i * j)) S else .no := rfl
@[simp] theorem b_div : binD m .fdiv (.int i) (.int j) S = if 0 < j ∧ Fit j then .ok (.int (i / j)) S else .no := rfl
@[simp] theorem b_mod : binD m .mod (.int i) (.int j) S = if 0 < j then .ok (.int (i % j)) S else .no := rfl
@[simp] theorem b_shl : binD m .shl (.int i) (.int j) S = if 0 ≤ j ∧ j ≤ 1000 ∧ i.natAbs ≤ 1000 then .ok (.int (i * 2 ^ j.toNat)) S else .no := rfl
@[simp] theorem b_shr : binD m .shr (.int i) (.int j) S = if 0 ≤ j then .ok (.int (i / 2 ^ j.toNat)) S else .no := rfl
@[simp] theorem b_band : binD m .band (.int i) (.int j) S = if 0 ≤ i ∧ j = 1 then .ok (.int (i % 2)) S else .no := rfl
@[simp] theorem b_pow : binD m .pow (.int i) (.int j) S = if 0 ≤ j ∧ j ≤ 1000 ∧ i.natAbs ≤ 1000 then .ok (.int (i ^ j.toNat)) S else .no := rfl
@[simp] theorem b_addT (l k : List AV) : binD m .add (.tup l) (.tup k) S = if l.length + k.length ≤ sizeLine then .ok (.tup (l ++ k)) S else .no := rfl
@[simp] theorem b_addL (l : List AV) (b : AV) : binD m .add (.lst l) b S = optD (lstOf S b) fun k => if l.length + k.length ≤ sizeLine then mkL m (l ++ k) S else .no := by
  cases b <;> rfl
@[simp] theorem b_addO (p : Nat) (b : AV) : binD m .add (.loc p) b S = optD (lstOf S (.loc p)) fun l => optD (lstOf S b) fun k => if l.length + k.length ≤ sizeLine then mkL m (l ++ k) S else .no := by
  cases b <;> rfl
@[simp] theorem b_mulL (l : List AV) : binD m .mul (.lst l) (.int j) S = if 0 ≤ j ∧ j ≤ 10000000 ∧ l.length * j.toNat ≤ sizeLine then mkL m (List.replicate j.toNat l).flatten S else .no := rfl
@[simp] theorem c_lt : cmpD .lt (.int i) (.int j) S = some (decide (i < j)) := rfl
@[simp] theorem c_le : cmpD .le (.int i) (.int j) S = some (decide (i ≤ j)) := rfl
@[simp] theorem c_gt : cmpD .gt (.int i) (.int j) S = some (decide (j < i)) := rfl
@[simp] theorem c_ge : cmpD .ge (.int i) (.int j) S = some (decide (j ≤ i)) := rfl
@[simp] theorem c_eq (a b : AV) : cmpD .eq a b S = eqD S a b := rfl
@[simp] theorem c_ne (a b : AV) : cmpD .ne a b S = (eqD S a b).map (!·) := rfl
@[simp] theorem c_in (a b : AV) : cmpD .isin a b S = inD S a b := rfl
@[simp] theorem c_nin (a b : AV) : cmpD .nin a b S = (inD S a b).map (!·) := rfl
@[simp] theorem c_is0 : cmpD .is .non .non S = some true := rfl
@[simp] theorem c_is1 : cmpD .is (.int i) .non S = some false := rfl
@[simp] theorem c_is2 (l : List AV) : cmpD .is (.tup l) .non S = some false := rfl
@[simp] theorem c_is3 (l : List AV) : cmpD .is (.lst l) .non S = some false := rfl
@[simp] theorem c_is4 (n : Nat) : cmpD .is (.loc n) .non S = some false := rfl
@[simp] theorem c_isB (i j : Bool) : cmpD .is (.bl i) (.bl j) S = some (decide (i = j)) := rfl
@[simp] theorem c_isnB (i j : Bool) : cmpD .isn (.bl i) (.bl j) S = some (!decide (i = j)) := rfl
@[simp] theorem c_isn0 : cmpD .isn .non .non S = some false := rfl
@[simp] theorem c_isn1 : cmpD .isn (.int i) .non S = some true := rfl
@[simp] theorem c_isn2 (l : List AV) : cmpD .isn (.tup l) .non S = some true := rfl
@[simp] theorem c_isn3 (l : List AV) : cmpD .isn (.lst l) .non S = some true := rfl
@[simp] theorem c_isn4 (n : Nat) : cmpD .isn (.loc n) .non S = some true := rfl
@[simp] theorem t_non : truth S .non = some false := rfl
@[simp] theorem t_bl (b : Bool) : truth S (.bl b) = some b := rfl
@[simp] theorem t_int : truth S (.int i) = some (decide (i ≠ 0)) := rfl
@[simp] theorem t_tup (l : List AV) : truth S (.tup l) = some (!l.isEmpty) := rfl
@[simp] theorem t_lst (l : List AV) : truth S (.lst l) = some (!l.isEmpty) := rfl
@[simp] theorem t_scr (l : List Int) : truth S (.scr l) = some (!l.isEmpty) := rfl
def trO : Option AObj → Option Bool
  | some (.lst l) => some (!l.isEmpty)
  | some (.dct false l) => some (!l.isEmpty)
  | _ => none
@[simp] theorem t_loc (n : Nat) : truth S (.loc n) = trO S[n]? := by
  cases h : S[n]? with
  | none => simp only [truth, h, trO]
  | some o => rcases o with _ | ⟨_ | _, _⟩ | _ | _ <;> simp only [truth, h, trO]
@[simp] theorem trO_l (l : List AV) : trO (some (.lst l)) = some (!l.isEmpty) := rfl
def optL : Option AObj → Option (List AV)
  | some (.lst l) => some l
  | _ => none
@[simp] theorem optL_l (l : List AV) : optL (some (.lst l)) = some l := rfl
@[simp] theorem l_lst (l : List AV) : lstOf S (.lst l) = some l := rfl
@[simp] theorem l_tup (l : List AV) : lstOf S (.tup l) = none := rfl
@[simp] theorem l_loc (n : Nat) : lstOf S (.loc n) = optL S[n]? := by
  cases h : S[n]? with
  | none => simp only [lstOf, h, optL]
  | some o => rcases o with _ | _ | _ | _ <;> simp only [lstOf, h, optL]
@[simp] theorem w_lst (l : List AV) : walkOf S (.lst l) = some (l, []) := rfl
@[simp] theorem w_tup (l : List AV) : walkOf S (.tup l) = some (l, []) := rfl
@[simp] theorem w_ktp (l : List AV) : walkOf S (.ktp l) = some (l, []) := rfl
@[simp] theorem w_scr (l : List Int) : walkOf S (.scr l) = some (l.map .int, []) := rfl
@[simp] theorem w_loc (n : Nat) : walkOf S (.loc n) = (optL S[n]?).map fun l => (l, [(n, l)]) := by
  cases h : S[n]? with
  | none => simp only [walkOf, h, optL, Option.map_none]
  | some o => rcases o with _ | _ | _ | _ <;> simp only [walkOf, h, optL, Option.map_none, Option.map_some]
@[simp] theorem en_tup (l : List AV) : enD (.tup l) S = .ok (l.mapIdx fun k x => .tup [.int k, x], []) S := rfl
@[simp] theorem en_lst (l : List AV) : enD (.lst l) S = .ok (l.mapIdx fun k x => .tup [.int k, x], []) S := rfl
@[simp] theorem en_loc (n : Nat) : enD (.loc n) S = optD (lstOf S (.loc n)) fun l => .ok (l.mapIdx fun k x => .tup [.int k, x], [(n, l)]) S := rfl
def ixO (o : Option AObj) (k : Int) (S : Store) : Out AV := match o with
  | some (.lst l) => optD (atI l k) fun v => .ok v S
  | some (.dct _ l) => optD (lookK (.inl k) l) fun v => .ok v S
  | _ => .no
@[simp] theorem ixO_l (l : List AV) (k : Int) : ixO (some (.lst l)) k S = optD (atI l k) fun v => .ok v S := rfl
@[simp] theorem x_loc (n : Nat) : ixD (.loc n) (.int i) S = ixO S[n]? i S := by
  cases h : S[n]? with
  | none => simp only [ixD, h, ixO]
  | some o => rcases o with _ | _ | _ | _ <;> simp only [ixD, h, ixO]
@[simp] theorem x_tup (l : List AV) : ixD (.tup l) (.int i) S = optD (atI l i) fun v => .ok v S := rfl
@[simp] theorem x_lst (l : List AV) : ixD (.lst l) (.int i) S = optD (atI l i) fun v => .ok v S := rfl
@[simp] theorem x_ktp (l : List AV) : ixD (.ktp l) (.int i) S = optD (atI l i) fun v => .ok v S := rfl
@[simp] theorem x_scr (l : List Int) : ixD (.scr l) (.int i) S = optD (atI (l.map AV.int) i) fun v => .ok v S := rfl
def lnO : Option AObj → Option Nat
  | some (.lst l) => some l.length
  | some (.dct false l) => some l.length
  | _ => none
@[simp] theorem lnO_l (l : List AV) : lnO (some (.lst l)) = some l.length := rfl
@[simp] theorem n_loc (n : Nat) : lenD S (.loc n) = lnO S[n]? := by
  cases h : S[n]? with
  | none => simp only [lenD, h, lnO]
  | some o => rcases o with _ | ⟨_ | _, _⟩ | _ | _ <;> simp only [lenD, h, lnO]
@[simp] theorem n_tup (l : List AV) : lenD S (.tup l) = some l.length := rfl
@[simp] theorem n_lst (l : List AV) : lenD S (.lst l) = some l.length := rfl
@[simp] theorem n_ktp (l : List AV) : lenD S (.ktp l) = some l.length := rfl
@[simp] theorem n_scr (l : List Int) : lenD S (.scr l) = some l.length := by simp [lenD, itemsOf]
@[simp] theorem p_len (a : AV) : primD m .len [a] S = optD (lenD S a) fun n => .ok (.int n) S := rfl
@[simp] theorem p_abs : primD m .abs [.int i] S = .ok (.int (if i < 0 then -i else i)) S := rfl
@[simp] theorem p_min : primD m .min2 [.int i, .int j] S = .ok (.int (if j < i then j else i)) S := rfl
@[simp] theorem p_max : primD m .max2 [.int i, .int j] S = .ok (.int (if i < j then j else i)) S := rfl
@[simp] theorem p_minL (a : AV) : primD m .minL [a] S = optD (lstOf S a) fun l => optD (intsOf l) fun ns => optD (leastI ns) fun i => .ok (.int i) S := rfl
@[simp] theorem p_sumT (l : List AV) : primD m .sumT [.tup l] S = optD (intsOf l) fun ns => .ok (.int ns.sum) S := rfl
@[simp] theorem p_minI (l : List AV) : primD m .minI [.tup l] S = optD (intsOf l) fun ns => optD (leastI ns) fun i => .ok (.int i) S := rfl
@[simp] theorem p_minT (a : AV) : primD m .minT [a] S = optD (lstOf S a) fun l => if likeT l = true then optD (minA l) fun r => .ok r S else .no := rfl
@[simp] theorem p_sortT (a : AV) : primD m .sortT [a] S = optD (lstOf S a) fun l => if likeT l = true then mkL m (l.mergeSort leA) S else .no := rfl
@[simp] theorem p_maxL (a : AV) : primD m .maxL [a] S = optD (lstOf S a) fun l => optD (intsOf l) fun ns => optD (mostI ns) fun i => .ok (.int i) S := rfl
@[simp] theorem p_sum (a : AV) : primD m .sum [a] S = optD (lstOf S a) fun l => optD (intsOf l) fun ns => .ok (.int ns.sum) S := rfl
@[simp] theorem p_sorted (a : AV) : primD m .sorted [a] S = optD (lstOf S a) fun l => optD (intsOf l) fun ns => mkL m ((sortI ns).map .int) S := rfl
@[simp] theorem p_tupT (l : List AV) : primD m .tuple [.tup l] S = .ok (.tup l) S := rfl
@[simp] theorem p_tupL (l : List AV) : primD m .tuple [.lst l] S = .ok (.tup l) S := rfl
@[simp] theorem p_tupO (n : Nat) : primD m .tuple [.loc n] S = optD (lstOf S (.loc n)) fun l => .ok (.tup l) S := rfl
@[simp] theorem p_lstT (l : List AV) : primD m .list [.tup l] S = mkL m l S := rfl
@[simp] theorem p_lstL (l : List AV) : primD m .list [.lst l] S = mkL m l S := rfl
@[simp] theorem p_lstO (n : Nat) : primD m .list [.loc n] S = optD (lstOf S (.loc n)) fun l => mkL m l S := rfl
@[simp] theorem p_int : primD m .int [.int i] S = .ok (.int i) S := rfl
@[simp] theorem p_intB (b : Bool) : primD m .int [.bl b] S = .ok (.int (if b then 1 else 0)) S := rfl
@[simp] theorem p_all (a : AV) : primD m .all [a] S = optD (lstOf S a) fun l => optD (blsOf l) fun bs => .ok (.bl (bs.all id)) S := rfl
@[simp] theorem p_any (a : AV) : primD m .any [a] S = optD (lstOf S a) fun l => optD (blsOf l) fun bs => .ok (.bl (bs.any id)) S := rfl
@[simp] theorem p_dm : primD m .divmod [.int i, .int j] S = if 0 < j ∧ j < 1073741824 then .ok (.tup [.int (i / j), .int (i % j)]) S else .no := rfl
@[simp] theorem p_isi (a : AV) (n : String) : primD m .isi [a, .ty n] S = if tyB n = true then optD (isTy S n a) fun b => .ok (.bl b) S else .no := rfl
@[simp] theorem y_bl (n : String) (b : Bool) : isTy S n (.bl b) = some (n == "int" || n == "bool") := rfl
@[simp] theorem y_int (n : String) : isTy S n (.int i) = some (n == "int") := rfl
@[simp] theorem y_non (n : String) : isTy S n .non = some false := rfl
@[simp] theorem y_tup (n : String) (l : List AV) : isTy S n (.tup l) = some (n == "tuple") := rfl
@[simp] theorem y_lst (n : String) (l : List AV) : isTy S n (.lst l) = some (n == "list") := rfl
def apO (o : Option AObj) (p : Nat) (a : AV) (S : Store) : Out AV := match o with
  | some (.lst l) => if l.length < sizeLine then .ok .non (S.set p (.lst (l ++ [a]))) else .no
  | _ => .no
@[simp] theorem apO_l (l : List AV) (p : Nat) (a : AV) : apO (some (.lst l)) p a S = if l.length < sizeLine then .ok .non (S.set p (.lst (l ++ [a]))) else .no := rfl
@[simp] theorem m_app (n : Nat) (a : AV) : mthD m .append (.loc n) [a] S = apO S[n]? n a S := by
  cases h : S[n]? with
  | none => simp only [mthD, h, apO]
  | some o => rcases o with _ | _ | _ | _ <;> simp only [mthD, h, apO]
def ppO (o : Option AObj) (p : Nat) (S : Store) : Out AV := match o with
  | some (.lst l) => optD l[l.length - 1]? fun v => .ok v (S.set p (.lst l.dropLast))
  | _ => .no
@[simp] theorem ppO_l (l : List AV) (p : Nat) : ppO (some (.lst l)) p S = optD l[l.length - 1]? fun v => .ok v (S.set p (.lst l.dropLast)) := rfl
@[simp] theorem m_pop0 (n : Nat) : mthD m .pop0 (.loc n) [] S = ppO S[n]? n S := by
  cases h : S[n]? with
  | none => simp only [mthD, h, ppO]
  | some o => rcases o with _ | _ | _ | _ <;> simp only [mthD, h, ppO]
def pkO (o : Option AObj) (p : Nat) (k : Int) (S : Store) : Out AV := match o with
  | some (.lst l) => if -(2 ^ 63) ≤ k ∧ k < 2 ^ 63 then optD (seqIndex? k l.length) fun j => optD l[j]? fun v => .ok v (S.set p (.lst (l.eraseIdx j))) else .no
  | _ => .no
@[simp] theorem pkO_l (l : List AV) (p : Nat) (k : Int) : pkO (some (.lst l)) p k S = if -(2 ^ 63) ≤ k ∧ k < 2 ^ 63 then optD (seqIndex? k l.length) fun j => optD l[j]? fun v => .ok v (S.set p (.lst (l.eraseIdx j))) else .no := rfl
@[simp] theorem m_pop (n : Nat) : mthD m .pop (.loc n) [.int i] S = pkO S[n]? n i S := by
  cases h : S[n]? with
  | none => simp only [mthD, h, pkO]
  | some o => rcases o with _ | _ | _ | _ <;> simp only [mthD, h, pkO]
@[simp] theorem r_loc (p : Mth) (n : Nat) (h : p = .append ∨ p = .pop0 ∨ p = .pop) : rcvOk p S (.loc n) = (optL S[n]?).isSome := by
  rw [← l_loc]
  rcases h with rfl | rfl | rfl <;> rfl
@[simp] theorem r_idx2 (S : Store) (a : AV) : rcvOk .index2 S a = (lstOf S a).isSome := rfl
@[simp] theorem r_cnt (S : Store) (a : AV) : rcvOk .count S a = (lstOf S a).isSome := rfl
@[simp] theorem r_idx (S : Store) (a : AV) : rcvOk .index S a = (lstOf S a).isSome := rfl
def stO (o : Option AObj) (p : Nat) (k : Int) (v : AV) (S : Store) : Option Store := match o with
  | some (.lst l) => (ixN l.length k).map fun j => S.set p (.lst (l.set j v))
  | some (.dct false l) => if l.length < sizeLine then some (S.set p (.dct false (putA (.inl k) v l))) else none
  | _ => none
@[simp] theorem stO_l (l : List AV) (p : Nat) (k : Int) (v : AV) : stO (some (.lst l)) p k v S = (ixN l.length k).map fun j => S.set p (.lst (l.set j v)) := rfl
@[simp] theorem u_loc (n : Nat) (v : AV) : setD (.loc n) (.int i) v S = stO S[n]? n i v S := by
  cases h : S[n]? with
  | none => simp only [setD, h, stO]
  | some o =>
    rcases o with l | ⟨_ | _, _⟩ | _ | _ <;> simp only [setD, h, stO]
    cases h : ixN l.length i <;> rfl
end
@[simp] theorem atI_0 (a : AV) (l : List AV) : atI (a :: l) 0 = some a := atI_nat (j := 0) rfl
@[simp] theorem atI_1 (a b : AV) (l : List AV) : atI (a :: b :: l) 1 = some b := atI_nat (j := 1) rfl
@[simp] theorem atI_2 (a b c : AV) (l : List AV) : atI (a :: b :: c :: l) 2 = some c := atI_nat (j := 2) rfl
@[simp] theorem atI_3 (a b c d : AV) (l : List AV) : atI (a :: b :: c :: d :: l) 3 = some d := atI_nat (j := 3) rfl
@[simp] theorem atI_4 (a b c d e : AV) (l : List AV) : atI (a :: b :: c :: d :: e :: l) 4 = some e := atI_nat (j := 4) rfl
theorem atI_in {l : List AV} {i : Int} (h0 : 0 ≤ i) (h : i.toNat < l.length) : atI l i = some l[i.toNat] := by
  have := atI_nat (xs := l) (j := i.toNat) (List.getElem?_eq_getElem h)
  rwa [Int.toNat_of_nonneg h0] at this
@[simp] theorem tg_n (i : Nat) (a : AV) (ρ : Ev) : tgD (.n i) a ρ = some (ρ.set i (some a)) := by rw [tgD]
@[simp] theorem tg_tup (t : Tg) (l : List AV) (ρ : Ev) : tgD (.tup t) (.tup l) ρ = tgsD t l ρ := by rw [tgD]
@[simp] theorem tgs_nil (ρ : Ev) : tgsD .nil [] ρ = some ρ := by rw [tgsD]
@[simp] theorem tgs_cons (t r : Tg) (a : AV) (l : List AV) (ρ : Ev) : tgsD (.cons t r) (a :: l) ρ = (tgD t a ρ).bind fun ρ1 => tgsD r l ρ1 := by
  rw [tgsD]; cases tgD t a ρ <;> rfl
@[simp] theorem wipe_nil (ρ : Ev) : wipeE ρ [] = ρ := rfl
@[simp] theorem wipe_cons (ρ : Ev) (v : Nat) (vs : List Nat) : wipeE ρ (v :: vs) = (wipeE ρ vs).set v none := rfl
@[simp] theorem cd_t (m : Ev → Store → Out AV) (ρ : Ev) (S : Store) : cdD true m ρ S = .ok (.bl true) S := rfl
@[simp] theorem cd_f (m : Ev → Store → Out AV) (ρ : Ev) (S : Store) : cdD false m ρ S = truD (m ρ S) := rfl

@[simp] theorem nl_non : AV.noLoc .non = true := rfl
@[simp] theorem nl_bl (b : Bool) : AV.noLoc (.bl b) = true := rfl
@[simp] theorem nl_int (i : Int) : AV.noLoc (.int i) = true := rfl
@[simp] theorem nl_str (x : Str) : AV.noLoc (.str x) = true := rfl
theorem nls_iff {l : List AV} : noLocs l = true ↔ ∀ a ∈ l, a.noLoc = true := by
  induction l with
  | nil => simp [noLocs]
  | cons a l ih => simp [noLocs, ih]
theorem nl_tup {l : List AV} : (AV.tup l).noLoc = true ↔ ∀ a ∈ l, a.noLoc = true := by rw [← nls_iff]; rfl
theorem nl_ints (l : List Int) : noLocs (l.map .int) = true := nls_iff.2 (by simp)
@[simp] theorem e_int (S : Store) (i j : Int) : eqD S (.int i) (.int j) = some (decide (i = j)) := by
  unfold eqD
  rw [frz_of rfl, frz_of rfl]
  simp only [dep, eqv, and_self, if_true]
  by_cases h : i = j <;> simp [h]
@[simp] theorem e_bl (S : Store) (i j : Bool) : eqD S (.bl i) (.bl j) = some (decide (i = j)) := by
  unfold eqD
  rw [frz_of rfl, frz_of rfl]
  simp only [dep, eqv, and_self, if_true]
  by_cases h : i = j <;> simp [h]
theorem eqvs_ints : ∀ xs ys : List Int, eqvs (xs.map .int) (ys.map .int) = decide (xs = ys)
  | [], [] => by simp [eqvs]
  | [], _ :: _ => by simp [eqvs]
  | _ :: _, [] => by simp [eqvs]
  | x :: xs, y :: ys => by
    simp only [List.map_cons, eqvs, eqv, eqvs_ints xs ys]
    by_cases h : x = y <;> simp [h]
theorem mapM_some {α β : Type} {f : α → Option β} {g : α → β} : ∀ {l : List α}, (∀ a ∈ l, f a = some (g a)) → l.mapM f = some (l.map g)
  | [], _ => rfl
  | a :: l, h => by
    rw [List.mapM_cons, h a (.head _), mapM_some fun b hb => h b (.tail _ hb)]; rfl
/-- a list of ints, wherever it lies -/
theorem frz_ints {S : Store} {a : AV} {xs : List Int} (h : lstOf S a = some (xs.map .int)) : frz 4 0 S a = some (.lst (xs.map .int)) := by
  cases a with
  | lst l =>
    simp only [l_lst, Option.some.injEq] at h
    subst h
    exact frz_of (nl_ints _)
  | loc i =>
    have e : S[i]? = some (.lst (xs.map .int)) := by
      simp only [lstOf] at h
      split at h
      · rename_i e; simp_all
      · cases h
    unfold frz
    rw [if_neg (by simp [AV.noLoc])]
    simp only [Nat.not_lt_zero, if_false, e]
    rw [mapM_some (g := id) fun a ha => by obtain ⟨k, _, rfl⟩ := List.mem_map.1 ha; exact frz_of rfl]
    simp
  | _ => cases h
theorem dep_ints (k : Nat) (xs : List Int) : dep (k + 1) (.lst (xs.map .int)) = true := by simp [dep]
theorem e_ints {S : Store} {a b : AV} {xs ys : List Int} (h : lstOf S a = some (xs.map .int)) (k : lstOf S b = some (ys.map .int)) : eqD S a b = some (decide (xs = ys)) := by
  unfold eqD
  rw [frz_ints h, frz_ints k]
  simp only [dep_ints, and_self, if_true, eqv, eqvs_ints]
theorem any_eqv (i : Int) (xs : List Int) : (xs.map AV.int).any (eqv (.int i)) = decide (i ∈ xs) := by
  induction xs with
  | nil => rfl
  | cons x xs ih =>
    rw [List.map_cons, List.any_cons, ih]
    show ((i == x) || decide (i ∈ xs)) = _
    by_cases h : i = x <;> simp [h]
theorem flat_ints (xs : List Int) : (xs.map AV.int).all flatA = true := by simp [flatA]
@[simp] theorem in_lst (S : Store) (i : Int) (xs : List Int) : inD S (.int i) (.lst (xs.map .int)) = some (decide (i ∈ xs)) := by
  simp only [inD, flat_ints, any_eqv]; simp [flatA]
@[simp] theorem in_tup (S : Store) (i : Int) (xs : List Int) : inD S (.int i) (.tup (xs.map .int)) = some (decide (i ∈ xs)) := by
  simp only [inD, flat_ints, any_eqv]; simp [flatA]
@[simp] theorem intsOf_m (l : List Int) : intsOf (l.map .int) = some l := intsOf_map l
@[simp] theorem intsOf_f {α : Type} (f : α → Int) (l : List α) : intsOf (l.map fun a => .int (f a)) = some (l.map f) := by
  have : (l.map fun a => AV.int (f a)) = (l.map f).map AV.int := by simp [Function.comp_def]
  rw [this, intsOf_map]
@[simp] theorem intsOf_c {α : Type} (f : α → Int) (l : List α) : intsOf (l.map (AV.int ∘ f)) = some (l.map f) := intsOf_f f l
@[simp] theorem intsOf_a : ∀ a b : List AV, intsOf (a ++ b) = (intsOf a).bind fun x => (intsOf b).map (x ++ ·)
  | [], b => by simp [intsOf]
  | x :: a, b => by
    cases x with
    | int i =>
      simp only [List.cons_append, intsOf, intsOf_a a b]
      cases intsOf a <;> cases intsOf b <;> simp
    | _ => simp [intsOf]
@[simp] theorem intsOf_nil : intsOf [] = some [] := rfl
@[simp] theorem intsOf_cons (i : Int) (l : List AV) : intsOf (.int i :: l) = (intsOf l).map (i :: ·) := rfl
@[simp] theorem blsOf_m (l : List Bool) : blsOf (l.map .bl) = some l := blsOf_map l
theorem fit_of {i : Int} (h0 : 0 ≤ i) (h : i < (10 ^ 60) * (10 ^ 60)) : Fit i := by
  show i.natAbs < 2 ^ 8000
  have h2 : i.natAbs < 10 ^ 60 * 10 ^ 60 := by omega
  exact Nat.lt_of_lt_of_le h2 (Nat.le_trans (show 10 ^ 60 * 10 ^ 60 ≤ 2 ^ 400 by decide +kernel) (Nat.pow_le_pow_right (by decide) (by decide)))
end VI

set_option maxRecDepth 100000
/-! VI15: walks over lists that came of lists of our own; what stands in a store. -/
namespace VI
open PySem L2
theorem wp_forM {α : Type} {t : Tg} {b : Ev → Store → OS} {gs : List (Nat × List AV)} {N : Ev → Store → Prop} {R : AV → Store → Prop} {C B : Ev → Store → Prop} (c : α → AV) (xs : List α) (I : Nat → Ev → Store → Prop) {ρ : Ev} {S : Store} (h0 : I 0 ρ S)
    (hg : ∀ k ρ S, I k ρ S → Gd gs S)
    (hs : ∀ k a ρ S, xs[k]? = some a → I k ρ S → ∀ M : Ev → Store → Prop, (∀ ρ S, I (k + 1) ρ S → M ρ S) → ∃ ρ1, tgD t (c a) ρ = some ρ1 ∧ ws (b ρ1 S) M R M N) (he : ∀ ρ S, I xs.length ρ S → N ρ S) : ws (forD t b gs (xs.map c) ρ S) N R C B := by
  refine wp_for I h0 hg (fun k a ρ S h q => ?_) (fun ρ S q => he ρ S (by simpa using q))
  rw [List.getElem?_map] at h
  cases e : xs[k]? with
  | none => rw [e] at h; cases h
  | some x => rw [e] at h; cases h; exact hs k x ρ S e q _ fun _ _ q => q
/-- a walk that needs no count, over things each of which is good -/
theorem wp_forE {α : Type} {t : Tg} {b : Ev → Store → OS} {gs : List (Nat × List AV)} {N : Ev → Store → Prop} {R : AV → Store → Prop} {C B : Ev → Store → Prop} (c : α → AV) (xs : List α) (I : Ev → Store → Prop) {ρ : Ev} {S : Store} (h0 : I ρ S)
    (hg : ∀ ρ S, I ρ S → Gd gs S)
    (hs : ∀ a ρ S, a ∈ xs → I ρ S → ∀ M : Ev → Store → Prop, (∀ ρ S, I ρ S → M ρ S) → ∃ ρ1, tgD t (c a) ρ = some ρ1 ∧ ws (b ρ1 S) M R M N) (he : ∀ ρ S, I ρ S → N ρ S) : ws (forD t b gs (xs.map c) ρ S) N R C B :=
  wp_forM c xs (fun _ => I) h0 (fun _ => hg) (fun k a ρ S h q => hs a ρ S (List.mem_of_getElem? h) q) he
theorem set_l0 {α : Type} (S : List α) (a b : α) (T : List α) : (S ++ a :: T).set S.length b = S ++ b :: T := by simp [List.set_append_right]
theorem set_l1 {α : Type} (S : List α) (x a b : α) (T : List α) : (S ++ x :: a :: T).set (S.length + 1) b = S ++ x :: b :: T := by simp [List.set_append_right]
theorem get_l0 {α : Type} (S : List α) (a : α) (T : List α) : (S ++ a :: T)[S.length]? = some a := by simp
theorem get_l1 {α : Type} (S : List α) (x a : α) (T : List α) : (S ++ x :: a :: T)[S.length + 1]? = some a := by simp [List.getElem?_append_right]
theorem lt_of_get {α : Type} {S : List α} {i : Nat} {a : α} (h : S[i]? = some a) : i < S.length := by
  by_cases hi : i < S.length
  · exact hi
  · rw [List.getElem?_eq_none (by omega)] at h; cases h
/-- 0, 1, .. below n, as ints -/
def rangeI (n : Int) : List Int := (List.range n.toNat).map fun (k : Nat) => (k : Int)
theorem rangeI_av (n : Int) : ((List.range n.toNat).map fun (k : Nat) => AV.int k) = (rangeI n).map .int := by simp [rangeI]
theorem mem_rangeI {n x : Int} : x ∈ rangeI n ↔ 0 ≤ x ∧ x < n := by
  simp only [rangeI, List.mem_map, List.mem_range]
  constructor
  · rintro ⟨k, h, rfl⟩; omega
  · rintro ⟨h0, h1⟩; exact ⟨x.toNat, by omega, by omega⟩
theorem len_rangeI (n : Int) : (rangeI n).length = n.toNat := by simp [rangeI]
theorem sizeL {n : Nat} (h : n ≤ 10000000) : n ≤ sizeLine := Nat.le_trans h (by decide)
theorem sizeLt {n : Nat} (h : n ≤ 10000000) : n < sizeLine := Nat.lt_of_le_of_lt h (by decide)
end VI

set_option maxRecDepth 100000
set_option maxHeartbeats 1000000
/-! VF: forms: more of the text that our language speaks of. -/
namespace VI
open PySem PySem.Spec PyProof.Rows L2 RZ

/-! what forms mean -/
@[simp] theorem d_ext (F : Form) (l : E) (ρ : Ev) (S : Store) : den (.ext F l) ρ S = F.sem (denF l) ρ S := by rw [den]
@[simp] theorem dI_ext (F : FormI) (l : E) (ρ : Ev) (S : Store) : denI (.iext F l) ρ S = F.sem (denF l) ρ S := by rw [denI]
@[simp] theorem s_ext (F : FormS) (l : E) (ρ : Ev) (S : Store) : denS (.ext F l) ρ S = F.sem (denF l) ρ S := by rw [denS]
@[simp] theorem dF_nil : denF .nil = [] := by rw [denF]; simp
@[simp] theorem dF_cons (a r : E) : denF (.cons a r) = (fun ρ S => den a ρ S) :: denF r := by rw [denF]

section
variable {ρ : Ev} {S : Store} {R : List AV × List (Nat × List AV) → Store → Prop}
@[simp] theorem dI_zp (a b : E) : wp (denI (.izp a b) ρ S) R = wp (den a ρ S) fun x S1 => wp (den b ρ S1) fun y S2 => wp (zipD x y S2 fun l k gs => .ok ((l.zip k).map fun p => .tup [p.1, p.2], gs) S2) R := by
  rw [denI]; simp
end
@[simp] theorem zip_tt {β : Type} (l k : List AV) (S : Store) (f : List AV → List AV → List (Nat × List AV) → Out β) : zipD (.tup l) (.tup k) S f = f l k [] := rfl
theorem cutA_to {l : List AV} {k : Int} (h : 0 ≤ k) : cutA l none (some k) = l.take k.toNat := by
  have e1 : HT.sIx l.length 0 none = 0 := rfl
  have e2 : HT.sIx l.length l.length (some k) = min k.toNat l.length := by
    show (if k < 0 then (k + (l.length : Int)).toNat else min k.toNat l.length) = _
    rw [if_neg (by omega)]
  unfold cutA
  rw [e1, e2, List.drop_zero, Nat.sub_zero]
  by_cases q : k.toNat ≤ l.length
  · rw [Nat.min_eq_left q]
  · rw [Nat.min_eq_right (by omega), List.take_of_length_le (Nat.le_refl _), List.take_of_length_le (by omega)]
/-! ### enumerate(zip(a, b)) -/
section
variable {K : PySem.W.Frag} {W0 : Wd}
end
section
variable {P : Program} {w : World} {K : PySem.W.Frag} {mg : Str → Option Value} {base : Heap} {k : Nat}
theorem PEs.two {X : Cx} {a b : Expr} {ms : List Dn} (h : PEs X [a, b] ms) : ∃ ma mb, ms = [ma, mb] ∧ PE X a (T X.K ma) ∧ PE X b (T X.K mb) ∧ odd a = false ∧ odd b = false := by
  rcases h with _ | ⟨h1, o1, _ | ⟨h2, o2, _ | _⟩⟩
  exact ⟨_, _, rfl, h1, h2, o1, o2⟩
theorem PEs.one {X : Cx} {a : Expr} {ms : List Dn} (h : PEs X [a] ms) : ∃ ma, ms = [ma] ∧ PE X a (T X.K ma) ∧ odd a = false := by
  rcases h with _ | ⟨h1, o1, _ | _⟩
  exact ⟨_, rfl, h1, o1⟩
theorem PEs.three {X : Cx} {a b c : Expr} {ms : List Dn} (h : PEs X [a, b, c] ms) : ∃ ma mb mc, ms = [ma, mb, mc] ∧ PE X a (T X.K ma) ∧ PE X b (T X.K mb) ∧ PE X c (T X.K mc) ∧ odd a = false ∧ odd b = false ∧ odd c = false := by
  rcases h with _ | ⟨h1, o1, _ | ⟨h2, o2, _ | ⟨h3, o3, _ | _⟩⟩⟩
  exact ⟨_, _, _, rfl, h1, h2, h3, o1, o2, o3⟩
end
end VI

set_option maxRecDepth 100000
/-! LB: the bag of a script: drawn from, and made. -/
namespace VI
open PySem PySem.Spec PyProof.Rows L2
noncomputable def b_law_take : St :=
  (.cons (.ifs (.cmp .gt (.ix (.v 0) (.c (.int 0))) (.c (.int 0))) (.cons (.asg (.n 2) (.bin false .mod (.ix (.v 0) (.c (.int 0))) (.v 1)))
    (.cons (.set (.v 0) (.c (.int 0)) (.bin false .fdiv (.ix (.v 0) (.c (.int 0))) (.v 1)))
    (.cons (.ret (.v 2))
    .nil))) .nil)
    (.cons (.set (.v 0) (.c (.int 1)) (.bin false .mod (.bin false .mul (.ix (.v 0) (.c (.int 1))) (.c (.int 48271))) (.c (.int 2147483647))))
    (.cons (.ret (.bin false .mod (.bin false .fdiv (.bin false .mod (.bin false .mul (.ix (.v 0) (.c (.int 1))) (.ix (.v 0) (.c (.int 1)))) (.c (.int 2147483629))) (.c (.int 64))) (.v 1)))
    .nil)))
noncomputable def d_law_take : Fn := mkFn true 2 3 b_law_take

noncomputable def b_law_bag : St :=
  (.cons (.asg (.n 2) (.c (.int 0)))
    (.cons (.ifs (.cmp .lt (.v 1) (.prim false .len (.cons (.v 0) .nil))) (.cons (.asg (.n 2) (.bin false .mod (.ix (.v 0) (.v 1)) (.bin false .mul (.bin false .pow (.c (.int 10)) (.c (.int 60))) (.bin false .pow (.c (.int 10)) (.c (.int 60))))))
    .nil) .nil)
    (.cons (.ifs (.cmp .lt (.v 2) (.bin false .pow (.c (.int 10)) (.c (.int 18)))) (.cons (.ret (.lst true (.cons (.c (.int 0)) (.cons (.bin false .add (.c (.int 1)) (.bin false .mod (.bin false .add (.bin false .mul (.v 2) (.c (.int 7919))) (.bin false .mul (.c (.int 104729)) (.v 1))) (.c (.int 2147483646)))) .nil))))
    .nil) .nil)
    (.cons (.ret (.lst true (.cons (.v 2) (.cons (.bin false .add (.c (.int 1)) (.bin false .mod (.bin false .add (.v 2) (.v 1)) (.c (.int 2147483646)))) .nil))))
    .nil))))
noncomputable def d_law_bag : Fn := mkFn true 2 3 b_law_bag

def bagO (c g : Int) : AObj := .lst [.int c, .int g]
def BagOk (c g : Int) : Prop := 0 ≤ c ∧ c < 10 ^ 60 * 10 ^ 60 ∧ 0 ≤ g ∧ g < 2147483647
theorem fit_c (k : Int) (h0 : 0 ≤ k) (h : k ≤ 2147483647000000) : Fit k := fit_of h0 (Int.lt_of_le_of_lt h (by decide +kernel))
theorem wp_take {S : Store} {i : Nat} {c g m : Int} {Q : AV → Store → Prop} (h : S[i]? = some (bagO c g)) (b : BagOk c g) (h0 : 0 < m) (hm : m < 10 ^ 60 * 10 ^ 60)
    (q : ∀ r c' g', 0 ≤ r → r < m → BagOk c' g' → Q (.int r) (S.set i (bagO c' g'))) : wp (d_law_take [.loc i, .int m] S) Q := by
  obtain ⟨b1, b2, b3, b4⟩ := b
  have hi : i < S.length := by
    by_cases hi : i < S.length
    · exact hi
    · rw [List.getElem?_eq_none (by omega)] at h; cases h
  have f1 : Fit m := fit_of (by omega) hm
  have f2 : Fit g := fit_c g b3 (by omega)
  have f4 : Fit 48271 := fit_c _ (by decide) (by decide)
  have f5 : Fit 64 := fit_c _ (by decide) (by decide)
  have x0 : 0 ≤ g * 48271 % 2147483647 := Int.emod_nonneg _ (by decide)
  have x1 : g * 48271 % 2147483647 < 2147483647 := Int.emod_lt_of_pos _ (by decide)
  have f3 : Fit (g * 48271 % 2147483647) := fit_c _ x0 (by omega)
  refine wp_fnK rfl ?_
  unfold bagO at h
  have e : ∀ o, (S.set i o)[i]? = some o := fun o => by simp [hi]
  have n0 : ixN 2 0 = some 0 := rfl
  have n1 : ixN 2 1 = some 1 := rfl
  simp [b_law_take, h, f1, f2, f3, f4, f5, h0, e, n0, n1]
  by_cases hc : 0 < c
  · exact .inr ⟨hc, q _ _ _ (Int.emod_nonneg _ (by omega)) (Int.emod_lt_of_pos _ h0) ⟨Int.ediv_nonneg b1 (by omega), Int.lt_of_le_of_lt (Int.ediv_le_self _ b1) b2, b3, b4⟩⟩
  · exact .inl ⟨by omega, q _ _ _ (Int.emod_nonneg _ (by omega)) (Int.emod_lt_of_pos _ h0) ⟨b1, b2, x0, x1⟩⟩
theorem wp_bag {S : Store} {ns : List Int} {k : Int} {Q : AV → Store → Prop} (h0 : 0 ≤ k) (hk : k ≤ 63) (q : ∀ c g, BagOk c g → Q (.loc S.length) (S ++ [bagO c g])) : wp (d_law_bag [.scr ns, .int k] S) Q := by
  refine wp_fnK rfl ?_
  have f1 : Fit (10 ^ 60) := fit_of (by decide +kernel) (by decide +kernel)
  have f2 : Fit 7919 := fit_c _ (by decide) (by decide)
  have f3 : Fit 104729 := fit_c _ (by decide) (by decide)
  have f4 : Fit k := fit_c _ h0 (by omega)
  have hT : (0 : Int) < 10 ^ 60 * 10 ^ 60 := by decide +kernel
  have main : ∀ cell : Int, 0 ≤ cell → cell < 10 ^ 60 * 10 ^ 60 → ws (denS (.cons (.ifs (.cmp .lt (.v 2) (.bin false .pow (.c (.int 10)) (.c (.int 18)))) (.cons (.ret (.lst true (.cons (.c (.int 0)) (.cons (.bin false .add (.c (.int 1)) (.bin false .mod (.bin false .add (.bin false .mul (.v 2) (.c (.int 7919))) (.bin false .mul (.c (.int 104729)) (.v 1))) (.c (.int 2147483646)))) .nil))))
    .nil) .nil)
    (.cons (.ret (.lst true (.cons (.v 2) (.cons (.bin false .add (.c (.int 1)) (.bin false .mod (.bin false .add (.v 2) (.v 1)) (.c (.int 2147483646)))) .nil))))
    .nil)) [some (.scr ns), some (.int k), some (.int cell)] S) (fun _ S' => Q .non S') (fun r S' => Q r S') (fun _ _ => False) fun _ _ => False := by
    intro cell c0 c1
    have f5 : Fit cell := fit_of c0 c1
    have hz : 2 ≤ sizeLine := by decide
    by_cases hc : cell < 10 ^ 18
    · simp [f2, f3, f4, f5, hz, -Int.reducePow]
      refine .inr ⟨hc, q _ _ ⟨by decide, hT, ?_, ?_⟩⟩
      · have := Int.emod_nonneg (cell * 7919 + 104729 * k) (b := 2147483646) (by decide); omega
      · have := Int.emod_lt_of_pos (cell * 7919 + 104729 * k) (b := 2147483646) (by decide); omega
    · simp [f2, f3, f4, f5, hz, -Int.reducePow]
      refine .inl ⟨by omega, q _ _ ⟨c0, c1, ?_, ?_⟩⟩
      · have := Int.emod_nonneg (cell + k) (b := 2147483646) (by decide); omega
      · have := Int.emod_lt_of_pos (cell + k) (b := 2147483646) (by decide); omega
  unfold b_law_bag
  refine ws_seq (fun ρ S1 => ρ = [some (.scr ns), some (.int k), some (.int 0)] ∧ S1 = S) (fun M hM => by simp; exact hM _ _ ⟨rfl, rfl⟩) ?_
  rintro ρ1 S1 ⟨e1, e2⟩
  rw [e1, e2]
  refine ws_seq (fun ρ S1 => S1 = S ∧ ∃ cell, 0 ≤ cell ∧ cell < 10 ^ 60 * 10 ^ 60 ∧ ρ = [some (.scr ns), some (.int k), some (.int cell)]) ?_ ?_
  · intro M hM
    by_cases hc : k < ns.length
    · have e := atI_in (l := ns.map AV.int) h0 (by simp; omega)
      simp only [List.getElem_map] at e
      simp [e, hc, f1, -Int.reducePow]
      exact ⟨hT, hM _ _ ⟨rfl, _, Int.emod_nonneg _ (Int.ne_of_gt hT), Int.emod_lt_of_pos _ hT, rfl⟩⟩
    · simp [hc, -Int.reducePow]
      exact hM _ _ ⟨rfl, 0, Int.le_refl _, hT, rfl⟩
  · rintro ρ1 S1 ⟨e1, cell, c0, c1, e2⟩
    rw [e1, e2]
    exact main cell c0 c1
end VI

set_option maxRecDepth 100000
/-! LL: lines, spans, places: what many laws ask. -/
namespace VI
open PySem PySem.Spec PyProof.Rows L2
noncomputable def b_length_of : St :=
  (.cons (.ret (.bin false .mul (.c (.int 2)) (.ix (.v 0) (.c (.int 0)))))
    .nil)
noncomputable def d_length_of : Fn := mkFn false 1 1 b_length_of

noncomputable def b_ends_of : St :=
  (.cons (.ret (.bin false .add (.bin false .add (.tup (.cons (.c (.int 0)) .nil)) (.ix (.v 0) (.c (.int 1)))) (.tup (.cons (.ix (.v 0) (.c (.int 0))) .nil))))
    .nil)
noncomputable def d_ends_of : Fn := mkFn false 1 1 b_ends_of

/-! eqv of a thing with itself -/
theorem frz_l {k n : Nat} {S : Store} {i : Nat} {l : List AV} (hi : ¬ i < n) (h : S[i]? = some (.lst l)) (hl : ∀ a ∈ l, a.noLoc = true) : frz (k + 1) n S (.loc i) = some (.lst l) := by
  unfold frz
  rw [if_neg (by simp [AV.noLoc])]
  simp only [if_neg hi, h]
  have := mapM_some (f := frz k n S) (g := id) (l := l) fun a ha => frz_of (hl a ha)
  rw [this]
  simp
theorem Fin.loc {S : Store} {l : List AV} {Q : AV → Store → Prop} (hl : ∀ a ∈ l, a.noLoc = true) (q : Q (.lst l) S) : Fin S (.loc S.length) (S ++ [.lst l]) Q :=
  ⟨⟨by simp, fun i hi => .inl (by simp [List.getElem?_append_left hi])⟩, _, frz_l (Nat.lt_irrefl _) (by simp) hl, by simpa using q⟩
/-! a line -/
def lineA (H : Int) (ps : List Int) : AV := .tup [.int H, .tup (ps.map .int)]
def LineOk (most H : Int) (ps : List Int) : Prop := 2 ≤ H ∧ H ≤ most ∧ ps.Pairwise (· < ·) ∧ (∀ p ∈ ps, 1 ≤ p ∧ p < H) ∧ ps.length ≤ 8
theorem len_insI (x : Int) : ∀ l : List Int, (insI x l).length = l.length + 1
  | [] => rfl
  | y :: l => by
    unfold insI
    split
    · rfl
    · simp [len_insI x l]
theorem len_sortI : ∀ l : List Int, (sortI l).length = l.length
  | [] => rfl
  | y :: l => by rw [sortI, len_insI, len_sortI l]; rfl
def endsI (H : Int) (ps : List Int) : List Int := 0 :: (ps ++ [H])
theorem wp_len {H : Int} {ps : List Int} {S : Store} {Q : AV → Store → Prop} (h0 : 0 ≤ H) (h : H ≤ 10000000) (q : Q (.int (2 * H)) S) : wp (d_length_of [lineA H ps] S) Q := by
  refine wp_fn rfl ?_
  simp [-Prod.forall, -Prod.exists, b_length_of, lineA]
  exact ⟨⟨fit_c _ (by decide) (by decide), fit_c _ h0 (by omega)⟩, .pure rfl q⟩
theorem wp_ends {H : Int} {ps : List Int} {S : Store} {Q : AV → Store → Prop} (hl : ps.length ≤ 8) (q : Q (.tup ((endsI H ps).map .int)) S) : wp (d_ends_of [lineA H ps] S) Q := by
  have hz : ∀ n : Nat, n ≤ 100 → n ≤ sizeLine := fun n hn => sizeL (by omega)
  refine wp_fn rfl ?_
  simp [-Prod.forall, -Prod.exists, b_ends_of, lineA, hz]
  refine ⟨hz _ (by omega), hz _ (by omega), ?_⟩
  refine .pure ?_ (by simpa [endsI] using q)
  have : AV.tup (AV.int 0 :: (ps.map AV.int ++ [AV.int H])) = .tup ((endsI H ps).map .int) := by simp [endsI]
  rw [this]
  exact nl_ints _

def so : Str := Str.ofString "out"
def sb : Str := Str.ofString "back"
def eI (H : Int) (ps : List Int) (i : Nat) : Int := (endsI H ps).getD i 0
end VI

set_option maxRecDepth 100000
set_option maxHeartbeats 2000000
/-! VD: dicts. -/
namespace VI
open PySem PySem.Spec PyProof.Rows L2 RZ

/-! ### the built-ins that a dict is handed to -/
section
variable {X : Cx}
end

/-! ### forms: a built-in called with one thing -/
def f1 (nm : String) (g : AV → Store → Out AV) : Form where
  mat := fun sc e => match e with
    | .Call (.Name f _) [x] [] _ => if (decide (f = Str.ofString nm) && glB sc f) = true then some [x] else none
    | _ => none
  sem := fun ms ρ S => match ms with
    | [m] => (m ρ S).bd g
    | _ => .no
def R1L (K : PySem.W.Frag) (g : AV → Store → Out AV) : List V → Hp → VK → Prop := fun xs H Q => ∃ W S a x, xs = [x] ∧ W.H = H ∧ Rep K W S ∧ RV K W a x ∧ PostO K W (g a S) Q
section
variable {P : Program} {w : World} {K : PySem.W.Frag} {mg : Str → Option Value} {base : Heap} {k : Nat}
theorem f1_mat {nm : String} {g : AV → Store → Out AV} {sc : Scope} {e : Expr} {es : List Expr} (hm : (f1 nm g).mat sc e = some es) : ∃ p1 x p, e = .Call (.Name (Str.ofString nm) p1) [x] [] p ∧ es = [x] ∧ glB sc (Str.ofString nm) = true := by
  simp only [f1] at hm
  split at hm
  · split at hm
    · rename_i hc
      simp only [Bool.and_eq_true, decide_eq_true_eq] at hc
      cases hm
      obtain ⟨rfl, h2⟩ := hc
      exact ⟨_, _, _, rfl, rfl, h2⟩
    · cases hm
  · cases hm
theorem f1_fin {nm : String} {g : AV → Store → Out AV} {ma : Dn} : ∀ σ H Q, T K ((f1 nm g).sem [ma]) σ H Q → tCB (R1L K g) (TL K fun ρ S => (ma ρ S).bd fun x S1 => (Out.ok [] S1).bd fun xs S2 => .ok (x :: xs) S2) σ H Q := fun σ H Q h => by
  obtain ⟨W, ρ, S, s, r, S', e, Q'⟩ := h
  obtain ⟨a, S1, e1, e2⟩ := Out.bd_eq (show (ma ρ S).bd g = .ok r S' from e)
  refine ⟨W, ρ, S, s, [a], S1, by simp [e1], fun W1 xs L1 R1 rs => ?_⟩
  rcases rs with _ | ⟨r1, _ | _⟩
  exact ⟨W1, S1, a, _, rfl, rfl, R1, r1, r, S', e2, Q'.mono L1⟩
theorem f1_okT {nm : String} {g : AV → Store → Out AV} (hb : bootBuiltins (Str.ofString nm) = some (.type nm)) (hn : Str.ofString nm ≠ ("__name__" : Str)) (hd : (Str.ofString nm == ("__debug__" : Str)) = false) (hm : mg (Str.ofString nm) = none)
    (cr : ∀ X : Cx, X.calm = true → X.A.units + 64 < cLine → CallR X (.type nm) (R1L X.K g)) : FormOk P w K mg base k (f1 nm g) := by
  intro N X sc e es ms gx hmt hp
  obtain ⟨p1, x, p, rfl, rfl, g1⟩ := f1_mat hmt
  obtain ⟨ma, rfl, ha, o1⟩ := hp.one
  have q1 := gx.gl g1
  have hu := gx.hu
  have hc := gx.calm
  obtain ⟨rfl, rfl, rfl, rfl, rfl, -, -, -, -, -⟩ := gx
  exact (pe_callTy (cr X hc hu) q1.1 hm hb (pa_consV ha pa_nilV o1) hn hd (odd_star o1) (backTo_any rfl)).w f1_fin
end
section
variable {P : Program} {w : World} {K : PySem.W.Frag} {mg : Str → Option Value} {base : Heap} {k : Nat}
/-- a new object of the store -/
theorem PostO.new {K : PySem.W.Frag} {W : Wd} {S : Store} {ob : AObj} {Q : VK} {p : Addr} {o : HO} (h : PostO K W (.ok (.loc S.length) (S ++ [ob])) Q) (R : Rep K W S) (hp : W.H p = none) (r : RO K (W.add p o) p ob) : Q (.ref p) (upd W.H p o) := by
  obtain ⟨a, S', e, h⟩ := h
  cases e
  have e : (W.add p o).φ W.n = p := if_pos rfl
  have z : RV K (W.add p o) (.loc W.n) (.ref ((W.add p o).φ W.n)) := .loc (Nat.lt_succ_self _)
  rw [e] at z
  refine h (W.add p o) (.ref p) (Le.add hp) (R.add hp r) ?_
  rw [R.len]
  exact z
end

/-! ### displays -/
section
variable {P : Program} {w : World} {K : PySem.W.Frag} {mg : Str → Option Value} {base : Heap} {k : Nat}
end

/-! ### get, pop -/
def isDD (S : Store) : AV → Bool
  | .loc i => match S[i]? with
    | some (.dct _ _) => true
    | some (.dcT _ _) => true
    | _ => false
  | _ => false
def getDD (x y d : AV) (S : Store) : Out AV := match x with
  | .loc i => match S[i]? with
    | some (.dct _ l) => optD (keyOf y) fun k => .ok ((lookK k l).getD d) S
    | some (.dcT _ l) => optD (keysOf y) fun k => .ok ((lookK k l).getD d) S
    | _ => .no
  | _ => .no
/-- a method by its name, the thing and the arguments the parts -/
def mMeth (nm : String) (n : Nat) (sc : Scope) (e : Expr) : Option (List Expr) := match e with
  | .Call (.Attribute o a ap) es [] cp => if (decide (a = Str.ofString nm) && decide (es.length = n) && !isC0 o && (ap.endLine == cp.line)) = true then some (o :: es) else none
  | _ => none
theorem mMeth_is {nm : String} {n : Nat} {sc : Scope} {e : Expr} {es : List Expr} (h : mMeth nm n sc e = some es) : ∃ o ap as cp, e = .Call (.Attribute o (Str.ofString nm) ap) as [] cp ∧ es = o :: as ∧ as.length = n ∧ isC0 o = false ∧ (ap.endLine == cp.line) = true := by
  simp only [mMeth] at h
  split at h
  · split at h
    · rename_i hc
      simp only [Bool.and_eq_true, decide_eq_true_eq, Bool.not_eq_true'] at hc
      cases h
      obtain ⟨⟨⟨rfl, h2⟩, h3⟩, h4⟩ := hc
      exact ⟨_, _, _, _, rfl, rfl, h2, h3, h4⟩
    · cases h
  · cases h
def fGet2 : Form where
  mat := mMeth "get" 2
  sem := fun ms ρ S => match ms with
    | [mo, mk, md] => (mo ρ S).bd fun x S1 => if isDD S1 x = true then (mk ρ S1).bd fun y S2 => (md ρ S2).bd fun d S3 => getDD x y d S3 else .no
    | _ => .no
section
variable {P : Program} {w : World} {K : PySem.W.Frag} {mg : Str → Option Value} {base : Heap} {k : Nat}
theorem isDD_is {W : Wd} {S : Store} {a : AV} {x : V} (R : Rep K W S) (r : RV K W a x) (h : isDD S a = true) : ∃ p, x = .ref p ∧ IsD W.H p := by
  cases a with
  | loc i =>
    simp only [isDD] at h
    cases r with
    | loc hi =>
      split at h
      · rename_i b l e
        refine ⟨_, rfl, ?_⟩
        have o := R.obj i _ e
        cases b with
        | false => obtain ⟨xs, h1, _⟩ := o; exact .inl ⟨xs, .inl h1⟩
        | true => obtain ⟨_, xs, ob, h1, _⟩ := o; exact .inl ⟨xs, .inr ⟨_, h1⟩⟩
      · rename_i b l e
        refine ⟨_, rfl, ?_⟩
        have o := R.obj i _ e
        cases b with
        | false => obtain ⟨xs, h1, _⟩ := o; exact .inr ⟨xs, .inl h1⟩
        | true => obtain ⟨_, xs, ob, h1, _⟩ := o; exact .inr ⟨xs, .inr ⟨_, h1⟩⟩
      · cases h
  | _ => cases h
theorem getDD_is {W : Wd} {S : Store} {a b d : AV} {x y z : V} {Q : VK} (R : Rep K W S) (ra : RV K W a x) (rb : RV K W b y) (rd : RV K W d z) (h : PostO K W (getDD a b d S) Q) : ∃ p o, x = .ref p ∧ DGet W.H p y o ∧ Q (o.getD z) W.H := by
  cases a with
  | loc i =>
    cases ra with
    | loc hi =>
      simp only [getDD] at h
      split at h
      · rename_i lk l e
        obtain ⟨c, e1, hh⟩ := h.opt; clear h; have h := hh; clear hh
        have ek := keyOf_ok e1 rb
        subst ek
        have o := R.obj i _ e
        have key : ∀ xs, Rd W.H (W.φ i) (.dK xs) → RKs K W l xs → ∃ p o, V.ref (W.φ i) = .ref p ∧ DGet W.H p (kV c) o ∧ Q (o.getD z) W.H := fun xs h1 h2 => by
          refine ⟨_, valV xs c, rfl, .inl ⟨xs, c, h1, rfl, rfl⟩, ?_⟩
          cases e2 : lookK c l with
          | none => rw [h2.lookN c e2]; rw [e2] at h; exact (h.val R rd : Q z W.H)
          | some v =>
            obtain ⟨u, h3, h4⟩ := h2.look c e2
            rw [h3]; rw [e2] at h
            exact (h.val R h4 : Q u W.H)
        cases lk with
        | false => obtain ⟨xs, h1, h2⟩ := o; exact key xs (.inl h1) h2
        | true => obtain ⟨_, xs, ob, h1, h2⟩ := o; exact key xs (.inr ⟨_, h1⟩) h2
      · rename_i lk l e
        obtain ⟨c, e1, hh⟩ := h.opt; clear h; have h := hh; clear hh
        have o := R.obj i _ e
        cases b with
        | tup ks =>
          cases rb with
          | tup h2 s2 r2 =>
            have ek := keysOf_ok' (l := ks) e1 r2
            subst ek
            have key : ∀ xs, Rd W.H (W.φ i) (.dT xs) → RKs K W l xs → ∃ p o, V.ref (W.φ i) = .ref p ∧ DGet W.H p _ o ∧ Q (o.getD z) W.H := fun xs h1 h3 => by
              refine ⟨_, valV xs c, rfl, .inr ⟨xs, c, _, h1, rfl, h2, rfl⟩, ?_⟩
              cases e2 : lookK c l with
              | none => rw [h3.lookN c e2]; rw [e2] at h; exact (h.val R rd : Q z W.H)
              | some v =>
                obtain ⟨u, h4, h5⟩ := h3.look c e2
                rw [h4]; rw [e2] at h
                exact (h.val R h5 : Q u W.H)
            cases lk with
            | false => obtain ⟨xs, h1, h3⟩ := o; exact key xs (.inl h1) h3
            | true => obtain ⟨_, xs, ob, h1, h3⟩ := o; exact key xs (.inr ⟨_, h1⟩) h3
        | _ => cases e1
      · exact h.no.elim
  | _ => exact h.no.elim
theorem few_2 {X : Cx} {cp : Pos} {e f : Expr} (h : odd e = false) (h' : odd f = false) : backTo cp (starEach [e, f] X.env) = [(false, eval e X.env), (false, eval f X.env)] := by rw [odd_star h, odd_star h']; rfl
theorem fGet2_ok : FormOk P w K mg base k fGet2 := by
  intro N X sc e es ms g hm hp
  obtain ⟨o, ap, as, cp, rfl, rfl, hl, h3, h4⟩ := mMeth_is (sc := sc) hm
  obtain ⟨a, b, rfl⟩ : ∃ a b, as = [a, b] := by
    rcases as with _ | ⟨a, _ | ⟨b, _ | _⟩⟩
    · cases hl
    · cases hl
    · exact ⟨a, b, rfl⟩
    · cases hl
  obtain ⟨mo, mk, md, rfl, ho, hk, hd, o1, o2, o3⟩ := hp.three
  have hu := g.hu
  obtain ⟨rfl, rfl, rfl, rfl, rfl, -, -, -, -, -⟩ := g
  refine (pe_dget2 (by omega) ho hk hd ⟨isC0_base h3, few_ok (by simp) (by rw [odd_star o2, odd_star o3]; rfl), h4, few_2 o2 o3⟩).w fun σ H Q h => ?_
  obtain ⟨W, ρ, S, st, P⟩ := h
  have P : PostO X.K W ((mo ρ S).bd fun x S1 => if isDD S1 x = true then (mk ρ S1).bd fun y S2 => (md ρ S2).bd fun d S3 => getDD x y d S3 else .no) Q := P
  refine T.bd st P fun x S1 W1 v L1 s1 r1 P1 => ?_
  obtain ⟨hi, P1⟩ := P1.ite
  obtain ⟨p, rfl, hD⟩ := isDD_is s1.rep r1 hi
  refine ⟨p, rfl, hD, T.bd s1 P1 fun y S2 W2 u L2 s2 r2 P2 => T.bd s2 P2 fun d S3 W3 z L3 s3 r3 P3 => ?_⟩
  obtain ⟨p', ob, e, q1, q2⟩ := getDD_is s3.rep ((r1.mono L2).mono L3) (r2.mono L3) r3 P3
  cases e
  exact ⟨ob, q1, q2⟩
end
end VI

set_option maxRecDepth 100000
set_option maxHeartbeats 1000000
/-! VR: range(a, b, c) gone through, c above 0. -/
namespace VI
open PySem PySem.Spec PyProof.Rows L2
end VI

set_option maxRecDepth 100000
set_option maxHeartbeats 2000000
/-! VC: a def that calls itself; a tuple told from behind. -/
namespace VI
open PySem PySem.Spec PyProof.Rows L2 RZ
section
variable {P : Program} {w : World} {K : PySem.W.Frag} {mg : Str → Option Value} {base : Heap} {k : Nat}
end
section
variable {prog : Program} {w : World} {A : Around} {E : Value → Shared → Prop} {s : Shared}
end
/-! ### t[::-1] -/
end VI

set_option maxRecDepth 100000
set_option maxHeartbeats 1000000
/-! VX: instances: what stands in them, what is called of them. -/
namespace VI
open PySem PySem.Spec PyProof.Rows L2 RZ
section
variable {K : PySem.W.Frag} {W : Wd}
end
/-- the class of a name -/
def ClsN (K : PySem.W.Frag) (c : Str) (C : Addr) : Prop := PySem.W.nsIn K mainGlobals c = some (some (.ref C)) ∧ Cls K C
theorem ClsN.one {K : PySem.W.Frag} {c : Str} {C D : Addr} (h : ClsN K c C) (e : PySem.W.nsIn K mainGlobals c = some (some (.ref D))) : D = C := by
  rw [h.1] at e; cases e; rfl
/-! ### o.f -/
section
variable {P : Program} {w : World} {K : PySem.W.Frag} {mg : Str → Option Value} {base : Heap} {k : Nat}
/-! ### o.f = value -/
end
/-! ### o.m(..) -/
section
variable {X : Cx}
end
/-- the def that stands in a class keeps its promise -/
def FxM (P : Program) (w : World) (K : PySem.W.Frag) (mg : Str → Option Value) (base : Heap) (k : Nat) (c m : Str) (d : Fn) : Prop :=
  ∃ C f fd ps, ClsN K c C ∧ Meth K C m f ∧ Binds K fd ps [] ∧ FnOk P w K mg base CX0 k f fd ps (spOf K d)
section
variable {P : Program} {w : World} {K : PySem.W.Frag} {mg : Str → Option Value} {base : Heap} {k : Nat}
end
/-! ### C(..) -/
/-- the class is made so -/
def FxI (P : Program) (w : World) (K : PySem.W.Frag) (mg : Str → Option Value) (base : Heap) (k : Nat) (c : Str) (d : Fn) : Prop :=
  ∃ C f fd ps, ClsN K c C ∧ mg c = some (.ref C) ∧ Mk K C f ∧ Binds K fd ps [] ∧ FnOk P w K mg base CX0 k f fd ps (spOf K d)
section
variable {P : Program} {w : World} {K : PySem.W.Frag} {mg : Str → Option Value} {base : Heap} {k : Nat}
/-! ### o.f += value -/
end
/-! ### for k in d, the dict walked just now -/
/-! ### o[i] += value, of a list of ints -/
/-! ### a class's defs keep their promises -/
section
variable {P : Program} {w : World} {K : PySem.W.Frag} {mg : Str → Option Value} {base : Heap} {k : Nat}
theorem FxM.mono {j : Nat} {c m : Str} {d : Fn} (h : FxM P w K mg base j c m d) (hk : j ≤ k) : FxM P w K mg base k c m d :=
  let ⟨C, f, fd, ps, h1, h2, h3, h4⟩ := h; ⟨C, f, fd, ps, h1, h2, h3, h4.mono hk⟩
theorem FxI.mono {j : Nat} {c : Str} {d : Fn} (h : FxI P w K mg base j c d) (hk : j ≤ k) : FxI P w K mg base k c d :=
  let ⟨C, f, fd, ps, h1, h2, h3, h4, h5⟩ := h; ⟨C, f, fd, ps, h1, h2, h3, h4, h5.mono hk⟩
end
end VI

set_option maxRecDepth 100000
set_option maxHeartbeats 1000000
/-! VT: tuple(range(n)). -/
namespace VI
open PySem PySem.Spec PyProof.Rows L2 RZ
end VI

set_option maxRecDepth 100000
set_option maxHeartbeats 1000000
/-! VZA: tuples that are known to have no dict of their own: tuple(list), t.index(k). -/
namespace VI
open PySem PySem.Spec PyProof.Rows L2 RZ
section
variable {X : Cx}
theorem call_tupleF : CallR X (.type "tuple") (fun xs H Q => ∃ p ys, xs = [.ref p] ∧ SqL X.K H p ys ∧ ∀ l o, H l = none → o.dict = none → Q (.ref l) (upd H l (.frz o (.tup ys)))) := by
  intro pins s σ H xs us Q I r h
  obtain ⟨p, ys, rfl, hq, q⟩ := h
  obtain ⟨u, rfl, rx⟩ := vals1 r
  cases rx
  obtain ⟨its, r', pl, hz⟩ := I.list hq
  have hlen := r'.length
  refine call_tuple_list pl.isList (fun h' kp => ?_) (by simp only [List.size_toArray] <;> omega)
  have I1 : Inv X pins σ H { s with heap := h' } := I.kept (t' := s.toks) kp
  have I2 : Inv X pins σ (upd H h'.objs.size (.frz { cls := .type "tuple", data := .seq its.toArray } (.tup ys))) { s with heap := h'.push { cls := .type "tuple", data := .seq its.toArray } } :=
    I1.laid (t' := s.toks) (fun b o e => Heap.get?_push_of_some _ e) (Nat.le_refl _) (show ObjOk X.prog X.w _ _ _ (.frz _ (.tup ys)) from ⟨Heap.get?_push_size _ rfl, hz, its, r', IsTup.new _ _⟩)
  exact ⟨.ref h'.objs.size, _, I2, rfl, q _ _ (I1.hok.fresh (Nat.le_refl _)) rfl⟩
theorem PostO.ftup {K : PySem.W.Frag} {W : Wd} {l : List AV} {S : Store} {Q : VK} {xs : List V} {p : Addr} {o : Obj} (h : PostO K W (.ok (.ftp l) S) Q) (R : Rep K W S) (r : RVs K W l xs) (hp : W.H p = none) (ho : o.dict = none) : Q (.ref p) (upd W.H p (.frz o (.tup xs))) := by
  obtain ⟨a, S', e, h⟩ := h
  cases e
  exact h (W.lay p (.frz o (.tup xs))) _ (Le.lay hp) (R.lay hp) (.ftup upd_same ho (R.layStb hp) (r.mono (Le.lay hp)))
end
def fTupF : Form where
  mat := fun sc e => match e with
    | .Call (.Name f _) [x] [] _ => if (decide (f = Str.ofString "tuple") && glB sc f) = true then some [x] else none
    | _ => none
  sem := fun ms ρ S => match ms with
    | [m] => (m ρ S).bd fun x S1 => optD (lstOf S1 x) fun l => .ok (.ftp l) S1
    | _ => .no
theorem fTupF_ok {P : Program} {w : World} {K : PySem.W.Frag} {mg : Str → Option Value} {base : Heap} {k : Nat} (h1 : mg "tuple" = none) : FormOk P w K mg base k fTupF := by
  intro N X sc e es ms gx hmt hp
  have h' : ∃ p1 x q1, e = .Call (.Name (Str.ofString "tuple") p1) [x] [] q1 ∧ es = [x] ∧ glB sc (Str.ofString "tuple") = true := by
    simp only [fTupF] at hmt
    split at hmt
    · split at hmt
      · rename_i hc
        simp only [Bool.and_eq_true, decide_eq_true_eq] at hc
        obtain ⟨rfl, a⟩ := hc
        cases hmt
        exact ⟨_, _, _, rfl, rfl, a⟩
      · cases hmt
    · cases hmt
  obtain ⟨p1, x, q1, rfl, rfl, g1⟩ := h'
  obtain ⟨ma, rfl, ha, o1⟩ := hp.one
  have l1 := gx.gl g1
  obtain ⟨rfl, rfl, rfl, rfl, rfl, -, -, -, -, -⟩ := gx
  refine (pe_callTy call_tupleF l1.1 h1 (by decide +kernel) (pa_cons ha pa_nil (odd_star o1)) (by decide +kernel) (by decide +kernel) (odd_star o1) (backTo_any rfl)).w fun σ H Q h => ?_
  obtain ⟨W, ρ, S, s, PP⟩ := h
  have PP : PostO X.K W ((ma ρ S).bd fun x S1 => optD (lstOf S1 x) fun l => .ok (.ftp l) S1) Q := PP
  refine T.bd s PP fun z S1 W1 v L1 s1 ra P1 => ?_
  obtain ⟨l, e, P2⟩ := P1.opt
  obtain ⟨p, ys, rfl, h, r1⟩ := lst_it s1.rep ra e
  exact ⟨p, ys, rfl, SqL.of h, fun q o hq ho => P2.ftup s1.rep r1 hq ho⟩
end VI

set_option maxRecDepth 100000
set_option maxHeartbeats 1000000
/-! VDT: dict(day) of a tuple of pairs that has no dict of its own. -/
namespace VI
open PySem PySem.Spec PyProof.Rows L2 RZ
section
variable {X : Cx}
theorem ftp_pairs {pins : List (Addr × Obj)} {σ : L2.St} {H : Hp} {s : Shared} (I : L2.Inv X pins σ H s) : ∀ {ps : List Addr} {ks : List (Key × V)}, Paired (fun p kv => SqT X.K H p [kV kv.1, kv.2]) ps ks →
    ∃ (rs : List (Key × Value)) (vs : List (Value × Value)), KV ks rs ∧ rs.length = ps.length ∧ vs.length = ps.length ∧ ∀ (j : Nat) (k v : Value), vs[j]? = some (k, v) → ∃ (b : Addr) (c : Key), ps[j]? = some b ∧ rs[j]? = some (c, v) ∧ IsTup s.heap b #[k, v] ∧ (mixKind X.prog X.w).is c k = true := by
  intro ps ks hp
  induction hp with
  | nil => exact ⟨[], [], .nil, rfl, rfl, fun j k v e => by simp at e⟩
  | @cons p kv ps ks h0 t0 ih =>
    obtain ⟨rs, vs, r1, l1, l2, hall⟩ := ih
    obtain ⟨its, rv, tp, _⟩ := I.tuple h0
    obtain ⟨u, y, rfl, ru, ry⟩ := vals2 rv
    refine ⟨(kv.1, y) :: rs, (u, y) :: vs, .cons ⟨rfl, ry⟩ r1, by simp [l1], by simp [l2], fun j k v e => ?_⟩
    match j, e with
    | 0, e =>
      cases (Option.some.inj e : (u, y) = (k, v))
      exact ⟨p, kv.1, rfl, rfl, tp, kV_is ru⟩
    | j + 1, e =>
      obtain ⟨b, c, e1, e2, e3, e4⟩ := hall j k v (by simpa using e)
      exact ⟨b, c, by simpa using e1, by simpa using e2, e3, e4⟩
theorem kv_keys {ks : List (Key × V)} {rs : List (Key × Value)} (r : KV ks rs) : ks.map (·.1) = rs.map (·.1) := by
  unfold KV at r
  induction r with
  | nil => rfl
  | cons h t ih => rw [List.map_cons, List.map_cons, ih, h.1]
theorem call_dictF (hc : X.calm = true) : CallR X (.type "dict") (fun xs H Q => ∃ (a : Addr) (o : Obj) (ps : List Addr) (ks : List (Key × V)), xs = [.ref a] ∧ H a = some (.frz o (.tup (ps.map V.ref))) ∧ o.dict = none ∧
    Paired (fun p kv => SqT X.K H p [kV kv.1, kv.2]) ps ks ∧ (ks.map (·.1)).Nodup ∧ ∀ p, H p = none → Q (.ref p) (upd H p (.dK ks))) := by
  intro pins s σ H xs us Q I r h
  obtain ⟨a, o, ps, ks, rfl, ha, hd, hp, hn, q⟩ := h
  obtain ⟨u, rfl, rx⟩ := vals1 r
  cases rx
  obtain ⟨g1, hz, its, rv, o2, g2, hcl, n, hdat⟩ := I.hok a _ ha
  rw [g1] at g2
  cases g2
  have ei := refs_at rv
  subst ei
  rw [List.length_map] at hz
  obtain ⟨rs, vs, r1, l1, l2, hall⟩ := ftp_pairs I hp
  have ok : PlainSeq "tuple" s.heap a (ps.map Value.ref).toArray ∧ PairItems s.heap (ps.map Value.ref).toArray (fun j => (ps[j]?).getD 0) vs := by
    refine ⟨⟨o, n, g1, hcl, hd, hdat⟩, by simp [l2], fun j k v e => ?_⟩
    obtain ⟨b, c, e1, e2, e3, e4⟩ := hall j k v e
    refine ⟨by simp [e1], .inl ?_⟩
    simp only [e1, Option.getD_some]
    obtain ⟨o3, x1, x2, m, x3⟩ := e3
    exact ⟨o3, x1, x2, m, x3⟩
  refine PySem.call_dict_pairs (knd := mixKind X.prog X.w) (kvs := rs) (PairArg.tuple a (ps.map Value.ref).toArray (fun j => (ps[j]?).getD 0) vs) (I.ok.hd hc) ok ⟨by rw [l1, l2], fun j k v e => ?_⟩ (by rw [l2]; exact hz) fun h' tk hd' k => ?_
  · obtain ⟨b, c, e1, e2, e3, e4⟩ := hall j k v e
    exact ⟨c, e2, e4⟩
  · have hm : (s.heap.objs.size == sysModules) = false := beq_eq_false_iff_ne.mpr (Nat.ne_of_gt I.big)
    have en : merged [] rs = rs := merged_nil_of_nodup rs (by rw [← kv_keys r1]; exact hn)
    rw [en] at hd'
    have hl : ks.length ≤ sizeLine := by
      have : ks.length = rs.length := Paired.length r1
      omega
    exact ⟨.ref s.heap.objs.size, upd H s.heap.objs.size (.dK ks), I.laid (t' := tk) (fun b ob e => k b ob (List.not_mem_nil) e) (Nat.le_refl _) (show ObjOk X.prog X.w _ _ _ (.dK ks) from ⟨hl, hm, rs, r1, hd'⟩), rfl, q _ (I.hok.fresh (Nat.le_refl _))⟩
end
def prOf : AV → Option (Key × AV)
  | .tup [.int k, v] => some (.inl k, v)
  | _ => none
theorem tup_prs {K : PySem.W.Frag} {W : Wd} : ∀ {l : List AV} {xs : List V} {kvs : List (Key × AV)}, l.mapM prOf = some kvs → RVs K W l xs →
    ∃ (ps : List Addr) (ks : List (Key × V)), xs = ps.map V.ref ∧ Paired (fun p kv => SqT K W.H p [kV kv.1, kv.2]) ps ks ∧ RKs K W kvs ks
  | [], _, kvs, e, r => by
    cases r
    have : kvs = [] := by simpa using e.symm
    subst this
    exact ⟨[], [], rfl, .nil, rfl, .nil⟩
  | a :: l, _, kvs, e, r => by
    cases r with
    | cons ra rl =>
      rw [List.mapM_cons] at e
      cases e1 : prOf a with
      | none => rw [e1] at e; cases e
      | some kv =>
        cases e2 : l.mapM prOf with
        | none => rw [e1, e2] at e; cases e
        | some m =>
          rw [e1, e2] at e
          have e : kvs = kv :: m := by simpa using e.symm
          subst e
          obtain ⟨ps, ks, rfl, hp, hk⟩ := tup_prs e2 rl
          unfold prOf at e1
          split at e1
          · rename_i k v
            cases e1
            cases ra with
            | tup h1 _ r2 =>
              cases r2 with
              | cons rk r3 =>
                cases r3 with
                | cons rv r4 =>
                  cases r4
                  cases rk
                  exact ⟨_ :: ps, (.inl k, _) :: ks, rfl, .cons (.inl (.inl h1)) hp, by show _ :: _ = _ :: _; rw [hk.1], .cons rv hk.2⟩
          · cases e1
def dictFF (a : AV) (S : Store) : Out AV := match a with
  | .ftp l => optD (l.mapM prOf) fun kvs => if (kvs.map (·.1)).Nodup then .ok (.loc S.length) (S ++ [.dct false kvs]) else .no
  | _ => .no
def fDictF : Form := f1 "dict" dictFF
section
variable {P : Program} {w : World} {K : PySem.W.Frag} {mg : Str → Option Value} {base : Heap} {k : Nat}
theorem fDictF_ok (hm : mg "dict" = none) : FormOk P w K mg base k fDictF := by
  refine f1_okT (by decide +kernel) (by decide +kernel) (by decide +kernel) hm fun X hc hu => ?_
  intro pins s σ H xs us Q I r h
  obtain ⟨W, S, a, x, rfl, rfl, R, ra, P⟩ := h
  cases a with
  | ftp l =>
    obtain ⟨kvs, e1, P⟩ := PostO.opt (show PostO X.K W (optD (l.mapM prOf) fun kvs => if (kvs.map (·.1)).Nodup then .ok (.loc S.length) (S ++ [.dct false kvs]) else .no) Q from P)
    obtain ⟨hn, P⟩ := P.ite
    cases ra with
    | ftup g1 g2 g3 g4 =>
      obtain ⟨ps, ks, rfl, hp, hk⟩ := tup_prs e1 g4
      exact call_dictF hc pins s σ W.H _ us Q I r ⟨_, _, ps, ks, rfl, g1, g2, hp, by rw [← hk.1]; exact hn, fun q hq => P.new R hq ⟨ks, upd_same, hk.mw (Le.add hq).lw⟩⟩
  | _ => exact P.no.elim
end
end VI

set_option maxRecDepth 100000
set_option maxHeartbeats 1000000
/-! VDU: (a, ..) + t where t is a tuple that has no dict of its own. -/
namespace VI
open PySem PySem.Spec PyProof.Rows L2 RZ
def addFD (x y : AV) (S : Store) : Out AV := match x, y with
  | .tup l, .ftp k => if l ≠ [] ∧ l.length + k.length ≤ sizeLine then .ok (.tup (l ++ k)) S else .no
  | _, _ => .no
def fAddF : Form where
  mat := fun _ e => match e with
    | .BinOp (.Tuple es c p) .Add b _ => some [.Tuple es c p, b]
    | _ => none
  sem := fun ms ρ S => match ms with
    | [ma, mb] => (ma ρ S).bd fun x S1 => (mb ρ S1).bd fun y S2 => addFD x y S2
    | _ => .no
theorem op_addF {X : Cx} : OpR X (binaryOp .Add) (R2D X.K addFD) := by
  intro pins s σ H x y v u Q I rx ry h
  obtain ⟨W, S, a, b, rfl, R, ra, rb, PP⟩ := h
  cases a with
  | tup l =>
    cases b with
    | ftp k =>
      obtain ⟨⟨hne, hz⟩, P⟩ := PostO.ite (show PostO X.K W (if l ≠ [] ∧ l.length + k.length ≤ sizeLine then .ok (.tup (l ++ k)) S else .no) Q from PP)
      obtain ⟨p, xs, rfl, h1, r1⟩ := ra.itT
      have hl := r1.len
      cases rb with
      | ftup g1 g2 g3 r2 =>
        refine op_catA pins s σ W.H _ _ v u Q I rx ry ⟨p, _, xs, _, rfl, rfl, h1, .inl (.inr ⟨_, g1⟩), by rw [← r1.len, ← r2.len]; exact hz, fun e => ?_, fun _ e => ?_, fun _ _ p hp => P.tup R (r1.append r2) hp⟩
        · subst e
          exact absurd (List.eq_nil_of_length_eq_zero hl) hne
        · subst e
          cases r2
          rw [List.append_nil] at P
          exact P.val R ra
    | _ => exact PP.no.elim
  | _ => exact PP.no.elim
theorem fAddF_ok {P : Program} {w : World} {K : PySem.W.Frag} {mg : Str → Option Value} {base : Heap} {k : Nat} : FormOk P w K mg base k fAddF := by
  intro N X sc e es ms gx hmt hp
  have h' : ∃ a b pos, e = .BinOp a .Add b pos ∧ es = [a, b] := by
    simp only [fAddF] at hmt
    split at hmt
    · cases hmt; exact ⟨_, _, _, rfl, rfl⟩
    · cases hmt
  obtain ⟨a, b, pos, rfl, rfl⟩ := h'
  rcases hp with _ | ⟨ha, o1, hp⟩
  rcases hp with _ | ⟨hb, o2, hp⟩
  cases hp
  rename_i ma mb
  obtain ⟨rfl, rfl, rfl, rfl, rfl, -, -, -, -, -⟩ := gx
  exact (pe_op op_addF ha hb).w fun _ _ _ h => T_op2 h
end VI

set_option maxRecDepth 100000
set_option maxHeartbeats 3200000
/-! VDV: sorted(set(xs)) of up to a thousand ints. -/
namespace VI
open PySem PySem.Spec PyProof.Rows L2
/-- sorted(a set of ints), of up to a thousand -/
theorem sorted_setA {P : Program} {w : World} {A : Around} {E : Value → Shared → Prop} {s : Shared} {a : Addr} {M : Int → Bool} {n : Nat} {Q : Value → Shared → Prop} (R : SetR w s.heap a M n) (calm : A.handled = none) (hn : n ≤ 1000)
    (k : ∀ s2 p (out : List Value) (c : Nat) (ks : List Int), (∀ b o, s.heap.get? b = some o → s2.heap.get? b = some o) → s2.gens = s.gens → s2.os = s.os → s.heap.objs.size ≤ p →
      s2.heap.get? p = some (seqObj "list" out.toArray c) → IntsAre out ks → ks.Pairwise (· < ·) → (∀ j, j ∈ ks ↔ M j = true) → ks.length = n → Q (.ref p) s2) :
    wpAny (model P w) A (call (.builtin "sorted") [.ref a]) Q E s := by
  obtain ⟨o, es, ep, t, r1, r2, r3, r4, r5, r6, r7, r8, r9, r10, r11⟩ := R
  refine Calls.call_function_entry PyProof.Rows.kind_sorted PyProof.Rows.plain_sorted PyProof.Rows.entry_sorted (PyProof.Rows.args_sorted1 _) ?_
  unfold Builtin.«sorted»
  refine wpAny_bind (m := checkCount "sorted" 1 1 _) (wpAny_pure (wpAny_bind (collect_set (A := A.in1) calm ⟨o, r1, r2.1, r3⟩ r8 r7 r10 r11 fun s1 xs kp big g1 o1 perm => ?_)))
  have len : xs.length = n := (perm.length_eq.trans (by rw [List.length_map, Array.length_toList])).trans r9
  have fits : xs.length ≤ sizeLine := by rw [len]; exact Nat.le_trans hn (by decide)
  have iAre : IntsAre xs (xs.map Builtin.Re.reRawOf) := ints_of xs fun x hx => by
    obtain ⟨y, hy, rfl⟩ := List.mem_map.mp (perm.mem_iff.mp hx)
    obtain ⟨j, tk, e, -⟩ := r4 y hy
    exact ⟨j, tk, e⟩
  have perm2 : (xs.map Builtin.Re.reRawOf).Perm (es.toList.map L2.keyOf) := by
    have := perm.map Builtin.Re.reRawOf
    rwa [List.map_map] at this
  refine wpAny_bind (wpAny_newList ?_ fits)
  have at1 : (s1.heap.push (seqObj "list" xs.toArray 0)).get? s1.heap.objs.size = some (seqObj "list" xs.toArray 0) := Heap.get?_push_size _ rfl
  refine wpAny_bind (wpAny_holding (wpAny_call_entry PyProof.Rows.slot_list_sort ⟨_, at1, rfl⟩ PyProof.Rows.entry_list_sort
    (SrtO.list_sort_ord (s := { s1 with heap := s1.heap.push (seqObj "list" xs.toArray 0) }) SrtO.swo_int at1 fits (fun two => SrtO.ints_sortable iAre two) fun out srt stb => ⟨_, rfl, ?_⟩) (PyProof.Rows.args_list_sort _)))
  obtain ⟨i1, i2, i3⟩ := SrtO.ints_out iAre srt stb
  obtain ⟨c, at2⟩ := PyProof.Rows.sortedHeap_at (vs := xs) (out := out.toArray) at1
  have perm3 := i2.trans perm2
  refine wpAny_pure ⟨_, rfl, k _ s1.heap.objs.size out c (out.map SrtO.iv) (fun b u e => ?_) g1 o1 big at2 i1 (lt_of_le_nodup _ i3 (perm3.nodup_iff.mpr r5)) (fun j => by rw [perm3.mem_iff, ← r6 j]) ((perm3.length_eq.trans (by rw [List.length_map, Array.length_toList])).trans r9)⟩
  have low := Heap.lt_size (kp b u e)
  show (PyProof.Rows.sortedHeap (s1.heap.push (seqObj "list" xs.toArray 0)) s1.heap.objs.size xs out.toArray).get? b = some u
  rw [PyProof.Rows.sortedHeap_old (Nat.ne_of_lt low) (by rw [size_push']; exact Nat.lt_succ_of_lt low)]
  exact Heap.get?_push_of_some _ (kp b u e)
def rSortedSetA (w : World) : List V → Hp → VK → Prop := fun vs H Q => ∃ (a : Addr) (M : Int → Bool) (n : Nat), vs = [V.ref a] ∧ H a = some (SetO w a M n) ∧ n ≤ 1000 ∧
  ∀ (ks : List Int) (p : Addr), ks.Pairwise (· < ·) → (∀ j : Int, j ∈ ks ↔ M j = true) → H p = none → Q (.ref p) (upd H p (.lst (ks.map V.int)))
theorem cr_sortedSetA {X : Cx} (hc : X.calm = true) : CallR X (.builtin "sorted") (rSortedSetA X.w) := by
  intro pins s σ H vs us Q I r h
  obtain ⟨a, M, n, rfl, ha, hn, q⟩ := h
  rw [Vals.ref1 r]
  refine sorted_setA (setO_get I ha) (I.ok.hd hc) hn fun s2 p out c ks kp g o big at2 ii lt mem len => ?_
  have free : H p = none := I.hok.fresh big
  have fits : (ks.map V.int).length ≤ sizeLine := by rw [List.length_map, len]; exact Nat.le_trans hn (by decide)
  have J : Inv X pins σ (upd H p (.lst (ks.map V.int))) { s with heap := s2.heap, gens := s2.gens, drawn := s2.drawn, toks := s2.toks } :=
    I.call (ch := []) (Un.laid kp big free) (I.hok.laid kp big ⟨fits, out, c, vals_of_ints ii, at2⟩) (by rw [g]; exact I.bare) (fun _ z => nomatch z)
  obtain ⟨h2, g2, d2, t2, o2⟩ := s2
  have eo : o2 = s.os := o
  subst eo
  exact ⟨.ref p, _, J, rfl, q ks p lt mem free⟩
section
variable {X : Cx}
def rSetM (K : PySem.W.Frag) (w : World) : List V → Hp → VK → Prop := fun xs H Q => ∃ (p : Addr) (ns : List Int), xs = [.ref p] ∧ (SqL K H p (ns.map V.int) ∨ SqT K H p (ns.map V.int)) ∧ ns.length ≤ 1000 ∧
  ∀ q c, c ≤ ns.length → H q = none → Q (.ref q) (upd H q (SetO w q (fun j => decide (j ∈ ns)) c))
theorem cr_setM (hc : X.calm = true) : CallR X (.type "set") (rSetM X.K X.w) := by
  intro pins s σ H xs us Q I r h
  obtain ⟨p, ns, rfl, hq, hz, q⟩ := h
  rw [Vals.ref1 r]
  have fin : ∀ s2, Made X.w s ns s2 → EP X pins σ Q (.ref s.heap.objs.size) s2 := by
    rintro s2 ⟨hp, tk, c, rfl, hcn, R, kp⟩
    exact ⟨.ref _, upd H s.heap.objs.size (SetO X.w s.heap.objs.size (fun j => decide (j ∈ ns)) c), I.laid (t' := tk) (fun b u e => kp b u e) (Nat.le_refl _) (setO_new R), rfl, q _ c hcn (I.hok.fresh (Nat.le_refl _))⟩
  rcases hq with hq | hq
  · obtain ⟨its, rv, pt, hz2⟩ := I.list hq
    exact call_setL (I.ok.hd hc) (show s.heap.IsList p its.toArray from pt.isList) (ints_of_vals rv) (by unfold scanBound; omega) fin
  · obtain ⟨its, rv, pt, hz2⟩ := I.tuple hq
    exact call_setT (I.ok.hd hc) (show s.heap.IsTuple p its.toArray from pt) (ints_of_vals rv) (by unfold scanBound; omega) fin
end
def fSetA : Form where
  mat := fun sc e => match e with
    | .Call (.Name f _) [.Call (.Name g _) [x] [] _] [] _ => if (decide (f = Str.ofString "sorted") && decide (g = Str.ofString "set") && glB sc f && glB sc g) = true then some [x] else none
    | _ => none
  sem := fun ms ρ S => match ms with
    | [m] => (m ρ S).bd fun x S1 => intsQ S1 x fun ns => if ns.length ≤ 1000 then mkL false ((riseI ns).map .int) S1 else .no
    | _ => .no
theorem fSetA_ok {P : Program} {w : World} {K : PySem.W.Frag} {mg : Str → Option Value} {base : Heap} {k : Nat} (h1 : mg "sorted" = none) (h2 : mg "set" = none) : FormOk P w K mg base k fSetA := by
  intro N X sc e es ms gx hmt hp
  have h' : ∃ p1 p2 x p3 p, e = .Call (.Name (Str.ofString "sorted") p1) [.Call (.Name (Str.ofString "set") p2) [x] [] p3] [] p ∧ es = [x] ∧ glB sc (Str.ofString "sorted") = true ∧ glB sc (Str.ofString "set") = true := by
    simp only [fSetA] at hmt
    split at hmt
    · split at hmt
      · rename_i hc
        simp only [Bool.and_eq_true, decide_eq_true_eq] at hc
        obtain ⟨⟨⟨rfl, rfl⟩, a⟩, b⟩ := hc
        cases hmt
        exact ⟨_, _, _, _, _, rfl, rfl, a, b⟩
      · cases hmt
    · cases hmt
  obtain ⟨p1, p2, x, p3, p, rfl, rfl, g1, g2⟩ := h'
  obtain ⟨ma, rfl, ha, o1⟩ := hp.one
  have q1 := gx.gl g1
  have q2 := gx.gl g2
  have hc := gx.calm
  obtain ⟨rfl, rfl, rfl, rfl, rfl, -, -, -, -, -⟩ := gx
  have k1 := pe_callTy (pos := p3) (p := p2) (cr_setM hc) q2.1 h2 PyProof.Rows.boot_set (pa_cons ha pa_nil (odd_star o1)) (by decide +kernel) (by decide +kernel) (odd_star o1) (backTo_any rfl)
  refine (pe_callB (cr_sortedSetA hc) q1.1 h1 PyProof.Rows.boot_sorted (pa_cons k1 pa_nil)).w fun σ H Q h => ?_
  obtain ⟨W, ρ, S, s, PP⟩ := h
  have PP : PostO X.K W ((ma ρ S).bd fun x S1 => intsQ S1 x fun ns => if ns.length ≤ 1000 then mkL false ((riseI ns).map .int) S1 else .no) Q := PP
  show T X.K ma σ H fun v H1 => rSetM X.K X.w [v] H1 fun y H2 => rSortedSetA X.w [y] H2 Q
  refine T.bd s PP fun x S1 W1 v L1 s1 ra P1 => ?_
  obtain ⟨p, ns, rfl, hq, P1⟩ := intsQ_it s1.rep ra P1
  obtain ⟨hz, P1⟩ := P1.ite
  refine ⟨p, ns, rfl, hq, hz, fun q c hcn hf => ?_⟩
  refine ⟨q, _, c, rfl, upd_same, by omega, fun ks p' pw mem hp' => ?_⟩
  have e : ks = riseI ns := pw_one pw (pw_riseI ns) fun j => (mem j).trans (decide_eq_true_iff.trans (mem_riseI (l := ns)).symm)
  rw [e]
  exact (P1.mono (Le.lay hf)).mk (s1.rep.lay hf) (RVs.ints _) hp'
end VI

set_option maxRecDepth 100000
/-! LM: lines, bags as wholes; buckets and when they come. -/
namespace VI
open PySem PySem.Spec PyProof.Rows L2
@[simp] theorem fit_lit2 : Fit 2 := fit_of (by decide) (by decide +kernel)
@[simp] theorem fit_lit3 : Fit 3 := fit_of (by decide) (by decide +kernel)
@[simp] theorem fit_lit4 : Fit 4 := fit_of (by decide) (by decide +kernel)
@[simp] theorem fit_lit6 : Fit 6 := fit_of (by decide) (by decide +kernel)
@[simp] theorem fit_lit7 : Fit 7 := fit_of (by decide) (by decide +kernel)
@[simp] theorem fit_lit8 : Fit 8 := fit_of (by decide) (by decide +kernel)
@[simp] theorem fit_lit10 : Fit 10 := fit_of (by decide) (by decide +kernel)
@[simp] theorem fit_lit18 : Fit 18 := fit_of (by decide) (by decide +kernel)
@[simp] theorem fit_lit20 : Fit 20 := fit_of (by decide) (by decide +kernel)
@[simp] theorem fit_lit0 : Fit 0 := fit_of (by decide) (by decide +kernel)
@[simp] theorem fit_lit1 : Fit 1 := fit_of (by decide) (by decide +kernel)
theorem set_l2 {α : Type} (S : List α) (x y a b : α) (T : List α) : (S ++ x :: y :: a :: T).set (S.length + 2) b = S ++ x :: y :: b :: T := by simp [List.set_append_right]
theorem get_l2 {α : Type} (S : List α) (x y a : α) (T : List α) : (S ++ x :: y :: a :: T)[S.length + 2]? = some a := by simp [List.getElem?_append_right]
@[simp] theorem ex_not (b : Bool) (X : Bool → Prop) : (∃ t, b = !t ∧ X t) ↔ X (!b) := by
  constructor
  · rintro ⟨t, rfl, h⟩; simpa using h
  · intro h; exact ⟨!b, by simp, h⟩
/-- what stands in a slot -/
abbrev At (ρ : Ev) (i : Nat) (v : AV) : Prop := ρ[i]? = some (some v)
/-! a piece that surely comes to one value, the store left -/
theorem ok_of {α : Type} {x : Out α} {a : α} {S : Store} (h : wp x fun b S' => b = a ∧ S' = S) : x = .ok a S := by
  obtain ⟨b, S', e, rfl, rfl⟩ := h
  exact e
theorem ok_all {α : Type} {x : Out α} {a : α} {S : Store} (h : ∀ Q : α → Store → Prop, Q a S → wp x Q) : x = .ok a S := ok_of (h _ ⟨rfl, rfl⟩)
/-! a bag as a whole -/
structure Bag where
  c : Int
  g : Int
  ok : BagOk c g
def Bag.o (b : Bag) : AObj := bagO b.c b.g
theorem Bag.nl (b : Bag) : b.o.noLoc = true := rfl
theorem fitT {i : Int} (h0 : 0 ≤ i) (h : i ≤ 10000000000000000000000000000000) : Fit i := fit_of h0 (Int.lt_of_le_of_lt h (by decide +kernel))
theorem wp_tk {S : Store} {i : Nat} {b : Bag} {m : Int} {Q : AV → Store → Prop} (h : S[i]? = some b.o) (h0 : 0 < m) (hm : m ≤ 10000000000000000000000000000000)
    (q : ∀ (r : Int) (b' : Bag), 0 ≤ r → r < m → Q (.int r) (S.set i b'.o)) : wp (d_law_take [.loc i, .int m] S) Q :=
  wp_take h b.ok h0 (Int.lt_of_le_of_lt hm (by decide +kernel)) fun r c g r0 r1 k => q r ⟨c, g, k⟩ r0 r1
theorem wp_bg {S : Store} {ns : List Int} {k : Int} {Q : AV → Store → Prop} (h0 : 0 ≤ k) (hk : k ≤ 63) (q : ∀ b : Bag, Q (.loc S.length) (S ++ [b.o])) : wp (d_law_bag [.scr ns, .int k] S) Q :=
  wp_bag h0 hk fun c g b => q ⟨c, g, b⟩
/-- one of some numbers -/
theorem pick {l : List Int} {r : Int} (h0 : 0 ≤ r) (h1 : r.toNat < l.length) : ∃ m, m ∈ l ∧ atI (l.map AV.int) r = some (.int m) :=
  ⟨l[r.toNat], List.getElem_mem h1, by rw [atI_in h0 (by simpa using h1)]; simp⟩
/-! a line as a whole -/
structure Line where
  H : Int
  ps : List Int
  ok : LineOk 1000000 H ps
def Line.av (L : Line) : AV := lineA L.H L.ps
def Line.len (L : Line) : Int := 2 * L.H
theorem Line.h2 (L : Line) : 2 ≤ L.H := L.ok.1
theorem Line.hm (L : Line) : L.H ≤ 1000000 := L.ok.2.1
theorem Line.pos (L : Line) : 0 < L.len := by have := L.h2; unfold Line.len; omega
theorem Line.l4 (L : Line) : 4 ≤ L.len := by have := L.h2; unfold Line.len; omega
theorem Line.lm (L : Line) : L.len ≤ 2000000 := by have := L.hm; unfold Line.len; omega
theorem Line.p8 (L : Line) : L.ps.length ≤ 8 := L.ok.2.2.2.2
@[simp] theorem Line.nl (L : Line) : L.av.noLoc = true := nl_tup.2 (by simp; exact nl_tup.2 (by simp))
@[simp] theorem x_len (L : Line) (S : Store) : d_length_of [L.av] S = .ok (.int L.len) S := ok_all fun Q q => wp_len (by have := L.h2; omega) (by have := L.hm; omega) q
@[simp] theorem fit_len (L : Line) : Fit L.len := fit_c _ (by have := L.pos; omega) (by have := L.lm; omega)
@[simp] theorem ix_l0 (L : Line) (S : Store) : ixD L.av (.int 0) S = .ok (.int L.H) S := by
  unfold Line.av lineA
  simp
@[simp] theorem ix_l1 (L : Line) (S : Store) : ixD L.av (.int 1) S = .ok (.tup (L.ps.map .int)) S := by
  unfold Line.av lineA
  simp
@[simp] theorem fit_H (L : Line) : Fit L.H := fit_c _ (by have := L.h2; omega) (by have := L.hm; omega)
@[simp] theorem two_H (L : Line) : 2 * L.H = L.len := rfl
@[simp] theorem pos_len (L : Line) : 0 < L.len := L.pos
/-! rests and whole parts -/
/-! when it comes -/
/-! a store that has a bag at i, more behind -/
section
variable {S T : Store} {i : Nat} {o o' x y : AObj}
theorem gb (hi : i < S.length) : (S.set i o ++ T)[i]? = some o := by rw [List.getElem?_append_left (by simpa using hi)]; simp [hi]
theorem sb' (hi : i < S.length) : (S.set i o ++ T).set i o' = S.set i o' ++ T := by rw [List.set_append_left _ _ (by simpa using hi), List.set_set]
theorem g0 : (S.set i o ++ x :: T)[S.length]? = some x := by simpa using get_l0 (S.set i o) x T
theorem s0 : (S.set i o ++ x :: T).set S.length y = S.set i o ++ y :: T := by simpa using set_l0 (S.set i o) x y T
theorem gB (hi : i < S.length) : (S ++ T)[i]? = S[i]? := List.getElem?_append_left hi
theorem sB (hi : i < S.length) : (S ++ T).set i o = S.set i o ++ T := List.set_append_left _ _ hi
end
theorem hz {n : Nat} (h : n ≤ 1000) : n ≤ sizeLine := sizeL (by omega)
theorem hzl {n : Nat} (h : n ≤ 1000) : n < sizeLine := sizeLt (by omega)
/-! clips as a whole -/
structure Clips (L : Int) where
  cs : List Int
  ne : cs ≠ []
  nd : cs.Nodup
  rg : ∀ c ∈ cs, 0 ≤ c ∧ c < L
  l12 : cs.length ≤ 12
def Clips.av {L : Int} (C : Clips L) : AV := .tup (C.cs.map .int)
@[simp] theorem Clips.nl {L : Int} (C : Clips L) : C.av.noLoc = true := nl_tup.2 (by simp)
def Clips.hd {L : Int} (C : Clips L) : Int := C.cs.head C.ne
@[simp] theorem ix_c0 {L : Int} (C : Clips L) (S : Store) : ixD C.av (.int 0) S = .ok (.int C.hd) S := by
  unfold Clips.av Clips.hd
  have := C.ne
  obtain ⟨cs, ne, _, _, _⟩ := C
  cases cs with
  | nil => exact absurd rfl ne
  | cons a l => simp
@[simp] theorem len_c {L : Int} (C : Clips L) (S : Store) : lenD S C.av = some C.cs.length := by simp [Clips.av]
@[simp] theorem walk_c {L : Int} (C : Clips L) (S : Store) : walkOf S C.av = some (C.cs.map .int, []) := by simp [Clips.av]
@[simp] theorem en_c {L : Int} (C : Clips L) (S : Store) : enD C.av S = .ok ((C.cs.map AV.int).mapIdx fun k x => .tup [.int k, x], []) S := rfl
@[simp] theorem x_ends (L : Line) (S : Store) : d_ends_of [L.av] S = .ok (.tup ((endsI L.H L.ps).map .int)) S := ok_all fun Q q => wp_ends L.p8 q
/-- a comprehension over ints that changes nothing, without an if -/
theorem comp_i {t : Tg} {e : Ev → Store → Out AV} {cd : Ev → Store → Out AV} {gs : List (Nat × List AV)} {ρ : Ev} {S : Store} (f : Int → AV) (hg : Gd gs S) (xs : List Int) (hl : xs.length ≤ sizeLine)
    (h : ∀ a ∈ xs, ∃ ρ1, tgD t (.int a) ρ = some ρ1 ∧ wp (e ρ1 S) fun v S1 => v = f a ∧ S1 = S) : compD t e (cdD true cd) gs ρ (xs.map .int) S = .ok (xs.map f) S := by
  rw [comp_pure AV.int (fun _ => true) f hg xs hl fun a ha => let ⟨ρ1, h1, h2⟩ := h a ha; ⟨ρ1, h1, by simp, fun _ => h2⟩, List.filter_eq_self.2 (by simp)]
def pairA (p : Int × Int) : AV := .tup [.int p.1, .int p.2]
/-! a law's whole: each cell by itself -/
def LawOne (ns : List Int) (n : Nat) (w : St) : Prop := ∀ (k : Nat) (ρ : Ev) (S : Store) (M N : Ev → Store → Prop) (R : AV → Store → Prop), k ≤ 63 → ρ.length = n → ρ[0]? = some (some (.scr ns)) → ρ[1]? = some (some (.int k)) →
  (∀ ρ' S', ρ'.length = n → ρ'[0]? = some (some (.scr ns)) → M ρ' S') → ws (denS w ρ S) M R M N
theorem fin_all {S : Store} {r : AV} {Q : AV → Store → Prop} (h : r.noLoc = true) (q : Q r []) : Fin [] r S Q :=
  ⟨⟨Nat.zero_le _, fun i hi => absurd hi (Nat.not_lt_zero _)⟩, r, frz_of h, by simpa using q⟩
theorem law_main {ns : List Int} {n : Nat} {N : Int} {w : St} (hN : 0 ≤ N) (hN2 : N ≤ 62) (hn : 2 ≤ n) (one : LawOne ns n w) :
    ∃ S', mkFn false 1 n (.cons (.for (.n 1) (.it1 (.bin false .add (.c (.int 1)) (.prim false .min2 (.cons (.prim false .len (.cons (.v 0) .nil)) (.cons (.c (.int N)) .nil))))) w) (.cons (.ret (.c (.bl true))) .nil)) [.scr ns] [] = .ok (.bl true) S' := by
  have : wp (mkFn false 1 n (.cons (.for (.n 1) (.it1 (.bin false .add (.c (.int 1)) (.prim false .min2 (.cons (.prim false .len (.cons (.v 0) .nil)) (.cons (.c (.int N)) .nil))))) w) (.cons (.ret (.c (.bl true))) .nil)) [.scr ns] []) fun r _ => r = .bl true := by
    refine wp_fn rfl ?_
    have e0 : ∀ xs : Ev, (some (AV.scr ns) :: xs)[0]? = some (some (AV.scr ns)) := fun _ => rfl
    refine ws_seq (fun ρ S' => True) ?_ ?_
    · intro M hM
      try simp [-Prod.forall, -Prod.exists, -Bool.exists_bool, -Bool.forall_bool, -getElem?_pos, At, List.getElem?_cons_zero, List.getElem?_cons_succ, get_l0, get_l1, get_l2, set_l0, set_l1, set_l2]
      refine ⟨by split <;> omega, ?_⟩
      generalize hj : (1 + if N < (ns.length : Int) then N else (ns.length : Int)).toNat = j
      have hj' : j ≤ 63 := by rw [← hj]; split <;> omega
      refine wp_forE (fun (k : Nat) => AV.int k) (List.range j) (fun ρ S' => ρ.length = n ∧ ρ[0]? = some (some (.scr ns))) ⟨by simp; omega, rfl⟩ (fun _ _ _ => by simp) ?_ ?_
      · rintro k ρ S' hk ⟨hl, h0⟩ M2 hM2
        refine ⟨_, tg_n _ _ _, ?_⟩
        have := List.mem_range.1 hk
        exact one k _ _ _ _ _ (by omega) (by rw [List.length_set]; exact hl) (by rw [List.getElem?_set_ne (by decide)]; exact h0) (by rw [List.getElem?_set_self (by omega)]) fun ρ' S' a b => hM2 _ _ ⟨a, b⟩
      · exact fun ρ S' _ => hM _ _ trivial
    · intro ρ S' _
      try simp [-Prod.forall, -Prod.exists, -Bool.exists_bool, -Bool.forall_bool, -getElem?_pos, At, List.getElem?_cons_zero, List.getElem?_cons_succ, get_l0, get_l1, get_l2, set_l0, set_l1, set_l2]
      exact fin_all rfl rfl
  obtain ⟨a, S', e, rfl⟩ := this
  exact ⟨S', e⟩
end VI

set_option maxRecDepth 100000
/-! LD: days, plainly. -/
namespace VI
abbrev Rws := List (Int × Int)
/-- the pace at an hour -/
def F (c : Int) : Rws → Int → Int
  | [], _ => c
  | x :: l, h => if h < x.1 then c else F x.2 l h
def mn (a b : Int) : Int := if b < a then b else a
def mx (a b : Int) : Int := if a < b then b else a
/-- how far, from an hour with a pace on -/
def RN (c b : Int) : Rws → Int → Int
  | [], H => if b < H then c * (H - b) else 0
  | x :: l, H => (if b < mn H x.1 then c * (mn H x.1 - b) else 0) + RN x.2 x.1 l H
def zr (x : Int) : Int := if x = 0 then 1 else 0
def ST (c b : Int) : Rws → Int → Int → Int
  | [], f, t => if c = 0 ∧ mx b f < t then t - mx b f else 0
  | x :: l, f, t => (if c = 0 ∧ mx b f < mn t x.1 then mn t x.1 - mx b f else 0) + ST x.2 x.1 l f t
def Up (lo : Int) : Rws → Prop
  | [] => True
  | x :: l => lo ≤ x.1 ∧ Up (x.1 + 1) l
theorem Up.le : ∀ {l : Rws} {a b : Int}, a ≤ b → Up b l → Up a l
  | [], _, _, _, _ => trivial
  | x :: l, _, _, h, u => ⟨Int.le_trans h u.1, u.2⟩
theorem Up.all : ∀ {l : Rws} {a : Int}, Up a l → ∀ x ∈ l, a ≤ x.1
  | [], _, _, _, h => by cases h
  | y :: l, a, u, x, h => by
    rcases List.mem_cons.1 h with rfl | h
    · exact u.1
    · have := u.2.all x h
      have := u.1
      omega
theorem F_low : ∀ {l : Rws} {c h : Int}, (∀ x ∈ l, h < x.1) → F c l h = c
  | [], _, _, _ => rfl
  | x :: l, c, h, q => by rw [F, if_pos (q x (.head _))]
theorem RN_low : ∀ {l : Rws} {c b H : Int}, Up b l → H ≤ b → RN c b l H = 0
  | [], c, b, H, _, h => by rw [RN, if_neg (by omega)]
  | x :: l, c, b, H, u, h => by
    have := u.1
    have e : ¬ b < mn H x.1 := by unfold mn; split <;> omega
    rw [RN, if_neg e, RN_low (u.2.le (by omega)) (by omega)]; rfl
theorem RN_succ : ∀ {l : Rws} {c b H : Int}, Up b l → b ≤ H → RN c b l (H + 1) = RN c b l H + F c l H
  | [], c, b, H, _, h => by
    simp only [RN, F]
    rw [if_pos (by omega)]
    by_cases e : b < H
    · rw [if_pos e, show H + 1 - b = (H - b) + 1 by omega, Int.mul_add]; omega
    · rw [if_neg e, show H + 1 - b = 1 by omega]; omega
  | x :: l, c, b, H, u, h => by
    have u2 : Up x.1 l := u.2.le (by omega)
    have := u.1
    simp only [RN, F]
    by_cases q : H < x.1
    · have e1 : mn (H + 1) x.1 = H + 1 := by unfold mn; split <;> omega
      have e2 : mn H x.1 = H := by unfold mn; split <;> omega
      rw [if_pos q, e1, e2, RN_low u2 (by omega), RN_low u2 (by omega), if_pos (by omega)]
      by_cases e : b < H
      · rw [if_pos e, show H + 1 - b = (H - b) + 1 by omega, Int.mul_add]; omega
      · rw [if_neg e, show H + 1 - b = 1 by omega]; omega
    · have e1 : mn (H + 1) x.1 = x.1 := by unfold mn; split <;> omega
      have e2 : mn H x.1 = x.1 := by unfold mn; split <;> omega
      rw [if_neg q, e1, e2, RN_succ u2 (by omega)]; omega
theorem ST_low : ∀ {l : Rws} {c b f t : Int}, Up b l → (t ≤ b ∨ t ≤ f) → ST c b l f t = 0
  | [], c, b, f, t, _, h => by
    rw [ST, if_neg]
    unfold mx; split <;> omega
  | x :: l, c, b, f, t, u, h => by
    have := u.1
    rw [ST, if_neg, ST_low (u.2.le (by omega)) (by omega)]
    · rfl
    · unfold mn mx; split <;> split <;> omega
theorem ST_succ : ∀ {l : Rws} {c b f t : Int}, Up b l → b ≤ t → f ≤ t → ST c b l f (t + 1) = ST c b l f t + zr (F c l t)
  | [], c, b, f, t, _, h, h2 => by
    simp only [ST, F]
    by_cases q : c = 0
    · have hm : mx b f ≤ t := by unfold mx; split <;> omega
      rw [if_pos ⟨q, by omega⟩, zr, if_pos q]
      by_cases e : mx b f < t
      · rw [if_pos ⟨q, e⟩]; omega
      · rw [if_neg fun z => e z.2]; omega
    · rw [if_neg fun z => q z.1, if_neg fun z => q z.1, zr, if_neg q]; rfl
  | x :: l, c, b, f, t, u, h, h2 => by
    have u2 : Up x.1 l := u.2.le (by omega)
    have := u.1
    simp only [ST, F]
    by_cases q : t < x.1
    · have e1 : mn (t + 1) x.1 = t + 1 := by unfold mn; split <;> omega
      have e2 : mn t x.1 = t := by unfold mn; split <;> omega
      rw [if_pos q, e1, e2, ST_low u2 (by omega), ST_low u2 (by omega)]
      by_cases q : c = 0
      · have hm : mx b f ≤ t := by unfold mx; split <;> omega
        rw [if_pos ⟨q, by omega⟩, zr, if_pos q]
        by_cases e : mx b f < t
        · rw [if_pos ⟨q, e⟩]; omega
        · rw [if_neg fun z => e z.2]; omega
      · rw [if_neg fun z => q z.1, if_neg fun z => q z.1, zr, if_neg q]; rfl
    · have e1 : mn (t + 1) x.1 = x.1 := by unfold mn; split <;> omega
      have e2 : mn t x.1 = x.1 := by unfold mn; split <;> omega
      rw [if_neg q, e1, e2, ST_succ u2 (by omega) h2]; omega
/-! rows put together -/
/-- rows without those that change nothing -/
def al (c : Int) : Rws → Rws
  | [] => []
  | x :: l => if x.2 ≠ c then x :: al x.2 l else al x.2 l
/-- a day as it has to be -/
def Canon (c lo : Int) : Rws → Prop
  | [] => True
  | x :: l => lo ≤ x.1 ∧ x.2 ≠ c ∧ Canon x.2 (x.1 + 1) l
theorem Canon.le : ∀ {l : Rws} {c a b : Int}, a ≤ b → Canon c b l → Canon c a l
  | [], _, _, _, _, _ => trivial
  | x :: l, _, _, _, h, u => ⟨Int.le_trans h u.1, u.2⟩
theorem Canon.up : ∀ {l : Rws} {c a : Int}, Canon c a l → Up a l
  | [], _, _, _ => trivial
  | x :: l, _, _, u => ⟨u.1, u.2.2.up⟩
section
variable {day : Rws} {t d : Int}
end

theorem int_up {P : Int → Prop} {a : Int} (h0 : P a) (hs : ∀ h, a ≤ h → P h → P (h + 1)) : ∀ h, a ≤ h → P h := by
  have key : ∀ k : Nat, P (a + k) := by
    intro k
    induction k with
    | zero => simpa using h0
    | succ k ih => have := hs (a + k) (by omega) ih; rwa [show a + (k : Int) + 1 = a + ((k + 1 : Nat) : Int) by omega] at this
  intro h hh
  have := key (h - a).toNat
  rwa [show a + ((h - a).toNat : Int) = h by omega] at this
def run (day : Rws) (h : Int) : Int := RN 0 0 day h
def still (day : Rws) (f t : Int) : Int := ST 0 0 day f t
structure Day (day : Rws) : Prop where
  up : Up 0 day
  p0 : ∀ x ∈ day, 0 ≤ x.2
theorem F_mem : ∀ {l : Rws} {c h : Int}, F c l h = c ∨ ∃ x ∈ l, F c l h = x.2
  | [], _, _ => .inl rfl
  | x :: l, c, h => by
    rw [F]
    split
    · exact .inl rfl
    · rcases F_mem (l := l) (c := x.2) (h := h) with e | ⟨y, hy, e⟩
      · exact .inr ⟨x, .head _, e⟩
      · exact .inr ⟨y, .tail _ hy, e⟩
section
variable {day : Rws} {t d : Int}
theorem Day.pos (D : Day day) (h : Int) : 0 ≤ F 0 day h := by
  rcases F_mem (l := day) (c := 0) (h := h) with e | ⟨x, hx, e⟩
  · omega
  · rw [e]; exact D.p0 x hx
theorem run_low (u : Up 0 day) {h : Int} (hh : h ≤ 0) : run day h = 0 := RN_low u hh
theorem run_succ (u : Up 0 day) {h : Int} (hh : 0 ≤ h) : run day (h + 1) = run day h + F 0 day h := RN_succ u hh
theorem still_low (u : Up 0 day) {f t : Int} (h : t ≤ f) : still day f t = 0 := ST_low u (.inr h)
theorem still_succ (u : Up 0 day) {f t : Int} (h0 : 0 ≤ f) (h : f ≤ t) : still day f (t + 1) = still day f t + zr (F 0 day t) := ST_succ u (by omega) h
theorem Day.mono (D : Day day) {a b : Int} (ha : 0 ≤ a) (h : a ≤ b) : run day a ≤ run day b := by
  refine int_up (P := fun b => run day a ≤ run day b) (Int.le_refl _) (fun h hh ih => ?_) b h
  rw [run_succ D.up (by omega)]
  have := D.pos h
  omega
variable (D : Day day) (ht : 0 ≤ t) (hd : 1 ≤ d)
include D ht hd
end
/-- the first hour at which so far is come -/
def Least (day : Rws) (r : Int) : Option Int → Prop
  | some h => 0 ≤ h ∧ r ≤ run day h ∧ ∀ g, 0 ≤ g → g < h → run day g < r
  | none => ∀ g, 0 ≤ g → run day g < r
theorem least_one {day : Rws} {r : Int} : ∀ {o p : Option Int}, Least day r o → Least day r p → o = p
  | none, none, _, _ => rfl
  | none, some h, u, v => by have := u h v.1; have := v.2.1; omega
  | some h, none, u, v => by have := v h u.1; have := u.2.1; omega
  | some h, some k, u, v => by
    rcases Int.lt_trichotomy h k with q | q | q
    · have := v.2.2 h u.1 q; have := u.2.1; omega
    · rw [q]
    · have := u.2.2 k v.1 q; have := v.2.1; omega
/-! at a row, up to the next one -/
theorem F_at : ∀ {l : Rws} {c lo : Int} {k : Nat} {x : Int × Int} {h : Int}, Up lo l → l[k]? = some x → x.1 ≤ h → (∀ y, l[k + 1]? = some y → h < y.1) → F c l h = x.2
  | y :: l, c, lo, 0, x, h, u, e, h1, h2 => by
    cases e
    rw [F, if_neg (by omega), F_low fun z hz => ?_]
    cases l with
    | nil => cases hz
    | cons w l =>
      have h3 := h2 w rfl
      rcases List.mem_cons.1 hz with rfl | hz
      · exact h3
      · have := u.2.2.all z hz; omega
  | y :: l, c, lo, k + 1, x, h, u, e, h1, h2 => by
    have e : l[k]? = some x := e
    have := u.2.all x (List.mem_of_getElem? e)
    rw [F, if_neg (by omega)]
    exact F_at u.2 e h1 h2
theorem run_row {day : Rws} {k : Nat} {x : Int × Int} {h : Int} (u : Up 0 day) (e : day[k]? = some x) (h1 : x.1 ≤ h) (h2 : ∀ y, day[k + 1]? = some y → h ≤ y.1) : run day h = run day x.1 + x.2 * (h - x.1) := by
  have x0 := u.all x (List.mem_of_getElem? e)
  refine int_up (P := fun h => (∀ y, day[k + 1]? = some y → h ≤ y.1) → run day h = run day x.1 + x.2 * (h - x.1)) (fun _ => by simp) (fun h hh ih q => ?_) h h1 h2
  rw [run_succ u (by omega), ih fun y hy => by have := q y hy; omega, F_at u e hh fun y hy => by have := q y hy; omega]
  rw [show h + 1 - x.1 = (h - x.1) + 1 by omega, Int.mul_add]; omega
end VI

set_option maxRecDepth 100000
/-! LEF: days (told as tuples without a dict), walked. -/
namespace VI
open PySem PySem.Spec PyProof.Rows L2
noncomputable def w_run_at_0 : St := (.cons (.asg (.n 4) (.v 1))
    (.cons (.ifs (.cmp .lt (.bin false .add (.v 3) (.c (.int 1))) (.prim false .len (.cons (.v 0) .nil))) (.cons (.asg (.n 4) (.prim false .min2 (.cons (.v 1) (.cons (.ix (.ix (.v 0) (.bin false .add (.v 3) (.c (.int 1)))) (.c (.int 0))) .nil))))
    .nil) .nil)
    (.cons (.ifs (.cmp .gt (.v 4) (.v 5)) (.cons (.aug 2 .add (.bin false .mul (.v 6) (.bin false .sub (.v 4) (.v 5))))
    .nil) .nil)
    .nil)))
noncomputable def b_run_at : St :=
  (.cons (.asg (.n 2) (.c (.int 0)))
    (.cons (.for (.tup (.cons (.n 3) (.cons (.tup (.cons (.n 5) (.cons (.n 6) .nil))) .nil))) (.ien (.v 0)) w_run_at_0)
    (.cons (.ret (.v 2))
    .nil)))
noncomputable def d_run_at : Fn := mkFn false 2 7 b_run_at

noncomputable def w_hour_at_0 : St := (.cons (.asg (.n 3) (.bin false .sub (.v 1) (.call (Str.ofString "run_at") d_run_at (.cons (.v 0) (.cons (.v 4) .nil)))))
    (.cons (.ifs (.cmp .gt (.v 5) (.c (.int 0))) (.cons (.asg (.n 6) (.bin false .add (.v 4) (.bin false .fdiv (.bin false .sub (.bin false .add (.v 3) (.v 5)) (.c (.int 1))) (.v 5))))
    (.cons (.ifs (.or (.cmp .eq (.bin false .add (.v 2) (.c (.int 1))) (.prim false .len (.cons (.v 0) .nil))) (.cmp .le (.v 6) (.ix (.ix (.v 0) (.bin false .add (.v 2) (.c (.int 1)))) (.c (.int 0))))) (.cons (.ret (.v 6))
    .nil) .nil)
    .nil)) .nil)
    .nil))
noncomputable def b_hour_at : St :=
  (.cons (.ifs (.cmp .eq (.v 1) (.c (.int 0))) (.cons (.ret (.c (.int 0)))
    .nil) .nil)
    (.cons (.for (.tup (.cons (.n 2) (.cons (.tup (.cons (.n 4) (.cons (.n 5) .nil))) .nil))) (.ien (.v 0)) w_hour_at_0)
    (.cons (.ret (.c .non))
    .nil)))
noncomputable def d_hour_at : Fn := mkFn false 2 7 b_hour_at

noncomputable def w_hours_still_0 : St := (.cons (.asg (.n 6) (.v 2))
    (.cons (.ifs (.cmp .lt (.bin false .add (.v 5) (.c (.int 1))) (.prim false .len (.cons (.v 4) .nil))) (.cons (.asg (.n 6) (.prim false .min2 (.cons (.v 2) (.cons (.ix (.ix (.v 4) (.bin false .add (.v 5) (.c (.int 1)))) (.c (.int 0))) .nil))))
    .nil) .nil)
    (.cons (.ifs (.and (.cmp .eq (.v 8) (.c (.int 0))) (.cmp .gt (.v 6) (.prim false .max2 (.cons (.v 7) (.cons (.v 1) .nil))))) (.cons (.aug 3 .add (.bin false .sub (.v 6) (.prim false .max2 (.cons (.v 7) (.cons (.v 1) .nil)))))
    .nil) .nil)
    .nil)))
noncomputable def b_hours_still : St :=
  (.cons (.asg (.n 3) (.c (.int 0)))
    (.cons (.asg (.n 4) (.ext fAddF (.cons (.tup (.cons (.tup (.cons (.c (.int 0)) (.cons (.c (.int 0)) .nil))) .nil)) (.cons (.v 0) .nil))))
    (.cons (.for (.tup (.cons (.n 5) (.cons (.tup (.cons (.n 7) (.cons (.n 8) .nil))) .nil))) (.ien (.v 4)) w_hours_still_0)
    (.cons (.ret (.v 3))
    .nil))))
noncomputable def d_hours_still : Fn := mkFn false 3 9 b_hours_still

@[simp] theorem en_ftp (l : List AV) (S : Store) : enD (.ftp l) S = .ok (l.mapIdx fun k x => .tup [.int k, x], []) S := rfl
@[simp] theorem w_ftp (l : List AV) (S : Store) : walkOf S (.ftp l) = some (l, []) := rfl
@[simp] theorem ix_ftp (l : List AV) (i : Int) (S : Store) : ixD (.ftp l) (.int i) S = optD (atI l i) fun v => .ok v S := rfl
@[simp] theorem n_ftp (l : List AV) (S : Store) : lenD S (.ftp l) = some l.length := rfl
theorem at_c {α : Type} {c : α → AV} {l : List α} {k : Nat} {y : α} (h : l[k]? = some y) : atI (l.map c) (k : Int) = some (c y) := by
  have hk := lt_of_get h
  rw [atI_in (Int.natCast_nonneg k) (by simpa using hk)]
  simp only [Int.toNat_natCast, List.getElem_map]
  rw [List.getElem?_eq_getElem hk] at h
  rw [Option.some.inj h]
theorem at_c1 {α : Type} {c : α → AV} {l : List α} {k : Nat} {y : α} (h : l[k + 1]? = some y) : atI (l.map c) ((k : Int) + 1) = some (c y) := at_c h
def numD (l : Rws) : List (Nat × (Int × Int)) := l.mapIdx fun k p => (k, p)
theorem numD_av (l : Rws) : ((l.map pairA).mapIdx fun (k : Nat) x => AV.tup [.int k, x]) = (numD l).map fun x => .tup [.int x.1, pairA x.2] := by
  apply List.ext_getElem?
  intro i
  simp [numD, List.getElem?_mapIdx]
  cases l[i]? <;> simp
theorem numD_get {l : Rws} {k : Nat} {x : Nat × (Int × Int)} (h : (numD l)[k]? = some x) : ∃ p, l[k]? = some p ∧ x = (k, p) := by
  simp only [numD, List.getElem?_mapIdx] at h
  cases e : l[k]? with
  | none => rw [e] at h; cases h
  | some d => rw [e] at h; cases h; exact ⟨d, rfl, rfl⟩
theorem numD_len (l : Rws) : (numD l).length = l.length := by simp [numD]
theorem drop_at {α : Type} {l : List α} {k : Nat} {x : α} (h : l[k]? = some x) : l.drop k = x :: l.drop (k + 1) := by
  have hk := lt_of_get h
  rw [List.getElem?_eq_getElem hk] at h
  rw [← Option.some.inj h]
  exact List.drop_eq_getElem_cons hk
/-- the end of a row -/
def en (H : Int) (l : Rws) : Int := match l with
  | [] => H
  | y :: _ => mn H y.1
def RT (H : Int) (l : Rws) : Int := match l with
  | [] => 0
  | x :: l => RN x.2 x.1 l H
theorem RN_step (c b H : Int) (l : Rws) : RN c b l H = (if b < en H l then c * (en H l - b) else 0) + RT H l := by
  cases l with
  | nil => rw [RN]; simp only [en, RT]; omega
  | cons y l => rfl
theorem run_RT (day : Rws) (H : Int) : run day H = RT H day := by
  unfold run
  rw [RN_step]
  split <;> simp
def SE (c b f t : Int) (l : Rws) : Int := if c = 0 ∧ mx b f < en t l then en t l - mx b f else 0
def SR (f t : Int) (l : Rws) : Int := match l with
  | [] => 0
  | x :: l => ST x.2 x.1 l f t
theorem ST_step (c b f t : Int) (l : Rws) : ST c b l f t = SE c b f t l + SR f t l := by
  cases l with
  | nil => rw [ST]; simp only [SE, en, SR]; omega
  | cons y l => rfl
structure DayR (day : Rws) : Prop where
  len : day.length ≤ 20
  up : Up 0 day
  h9 : ∀ x ∈ day, x.1 ≤ 1000000000
  p : ∀ x ∈ day, 0 ≤ x.2 ∧ x.2 ≤ 1000
theorem DayR.day {day : Rws} (D : DayR day) : Day day := ⟨D.up, fun x hx => (D.p x hx).1⟩
def dayA (day : Rws) : AV := .ftp (day.map pairA)
theorem dayA_nl (day : Rws) : (dayA day).noLoc = true := nl_tup.2 fun a ha => by obtain ⟨p, _, rfl⟩ := List.mem_map.1 ha; rfl
def big : Int := 10000000000000000000000000000000
theorem x_run_at {day : Rws} {H : Int} (S : Store) (D : DayR day) (h0 : 0 ≤ H) (hb : H ≤ big) : d_run_at [dayA day, .int H] S = .ok (.int (run day H)) S := by
  have hlen := D.len
  unfold big at hb
  refine ok_all fun Q q => wp_fn rfl ?_
  unfold b_run_at dayA
  with_reducible refine ws_cons fun M hM => ?_
  try simp [-Prod.forall, -Prod.exists, -Bool.exists_bool, -Bool.forall_bool, -getElem?_pos, At, List.getElem?_cons_zero, List.getElem?_cons_succ, get_l0, get_l1, get_l2, set_l0, set_l1, set_l2]
  refine hM _ _ ?_
  with_reducible refine ws_seq (fun ρ S' => S = S' ∧ ∃ x, ρ = [some (.ftp (day.map pairA)), some (.int H), some (.int (run day H))] ++ x) ?_ ?_
  · intro M hM
    try simp [-Prod.forall, -Prod.exists, -Bool.exists_bool, -Bool.forall_bool, -getElem?_pos, At, List.getElem?_cons_zero, List.getElem?_cons_succ, get_l0, get_l1, get_l2, set_l0, set_l1, set_l2, numD_av]
    refine wp_forM (fun (x : Nat × (Int × Int)) => .tup [.int x.1, pairA x.2]) (numD day) (fun k ρ S' => ∃ T x3 x4 x5 x6, T + RT H (day.drop k) = run day H ∧ S = S' ∧ ρ = [some (.ftp (day.map pairA)), some (.int H), some (.int T), x3, x4, x5, x6]) ⟨0, _, _, _, _, by rw [List.drop_zero, run_RT]; omega, rfl, rfl⟩ (fun _ _ _ _ => by simp) ?_ ?_
    · rintro k x ρ S' hx ⟨T, x3, x4, x5, x6, hT, rfl, rfl⟩ M2 hM2
      obtain ⟨p, hp, rfl⟩ := numD_get hx
      have hpm := List.mem_of_getElem? hp
      have hp1 := D.p p hpm
      have hp2 := D.up.all p hpm
      rw [drop_at hp] at hT
      have hT : T + RN p.2 p.1 (day.drop (k + 1)) H = run day H := hT
      rw [RN_step] at hT
      have hk := lt_of_get hp
      try simp [-Prod.forall, -Prod.exists, -Bool.exists_bool, -Bool.forall_bool, -getElem?_pos, At, List.getElem?_cons_zero, List.getElem?_cons_succ, get_l0, get_l1, get_l2, set_l0, set_l1, set_l2, pairA]
      unfold w_run_at_0
      with_reducible refine ws_cons fun M3 hM3 => ?_
      try simp [-Prod.forall, -Prod.exists, -Bool.exists_bool, -Bool.forall_bool, -getElem?_pos, At, List.getElem?_cons_zero, List.getElem?_cons_succ, get_l0, get_l1, get_l2, set_l0, set_l1, set_l2]
      refine hM3 _ _ ?_
      with_reducible refine ws_seq (fun ρ S' => S = S' ∧ ρ = [some (.ftp (day.map pairA)), some (.int H), some (.int T), some (.int k), some (.int (en H (day.drop (k + 1)))), some (.int p.1), some (.int p.2)]) ?_ ?_
      · intro M4 hM4
        cases e : day[k + 1]? with
        | none =>
          have hk2 : ¬ (k : Int) + 1 < day.length := by
            have := List.getElem?_eq_none_iff.1 e
            omega
          have e2 : day.drop (k + 1) = [] := List.drop_eq_nil_iff.2 (List.getElem?_eq_none_iff.1 e)
          rw [e2] at hM4
          try simp [-Prod.forall, -Prod.exists, -Bool.exists_bool, -Bool.forall_bool, -getElem?_pos, At, List.getElem?_cons_zero, List.getElem?_cons_succ, get_l0, get_l1, get_l2, set_l0, set_l1, set_l2, hk2]
          exact hM4 _ _ ⟨rfl, rfl⟩
        | some y =>
          have hk2 := lt_of_get e
          have hk2 : (k : Int) + 1 < day.length := by omega
          rw [drop_at e] at hM4
          try simp [-Prod.forall, -Prod.exists, -Bool.exists_bool, -Bool.forall_bool, -getElem?_pos, At, List.getElem?_cons_zero, List.getElem?_cons_succ, get_l0, get_l1, get_l2, set_l0, set_l1, set_l2, hk2, at_c1 e]
          try simp [-Prod.forall, -Prod.exists, -Bool.exists_bool, -Bool.forall_bool, -getElem?_pos, At, List.getElem?_cons_zero, List.getElem?_cons_succ, get_l0, get_l1, get_l2, set_l0, set_l1, set_l2, pairA]
          exact hM4 _ _ ⟨rfl, rfl⟩
      · rintro ρ S' ⟨rfl, rfl⟩
        generalize hen : en H (day.drop (k + 1)) = E at *
        have hE : E ≤ H := by
          rw [← hen]
          cases day.drop (k + 1) with
          | nil => exact Int.le_refl _
          | cons y l => show mn H y.1 ≤ H; unfold mn; split <;> omega
        try simp [-Prod.forall, -Prod.exists, -Bool.exists_bool, -Bool.forall_bool, -getElem?_pos, At, List.getElem?_cons_zero, List.getElem?_cons_succ, get_l0, get_l1, get_l2, set_l0, set_l1, set_l2]
        refine ⟨fun hlt => ?_, fun hge => ?_⟩
        · try simp [-Prod.forall, -Prod.exists, -Bool.exists_bool, -Bool.forall_bool, -getElem?_pos, At, List.getElem?_cons_zero, List.getElem?_cons_succ, get_l0, get_l1, get_l2, set_l0, set_l1, set_l2, fit_c p.2 (by omega) (by omega), fitT (show 0 ≤ E - p.1 by omega) (show E - p.1 ≤ 10000000000000000000000000000000 by omega)]
          rw [if_pos hlt] at hT
          exact hM2 _ _ ⟨T + p.2 * (E - p.1), _, _, _, _, by omega, rfl, rfl⟩
        · rw [if_neg (by omega)] at hT
          exact hM2 _ _ ⟨T, _, _, _, _, by omega, rfl, rfl⟩
    · rintro ρ S' ⟨T, x3, x4, x5, x6, hT, rfl, rfl⟩
      rw [numD_len, List.drop_length] at hT
      have : T = run day H := by rw [← hT]; simp [RT]
      subst this
      exact hM _ _ ⟨rfl, _, rfl⟩
  · rintro ρ S' ⟨rfl, x, rfl⟩
    try simp [-Prod.forall, -Prod.exists, -Bool.exists_bool, -Bool.forall_bool, -getElem?_pos, At, List.getElem?_cons_zero, List.getElem?_cons_succ, get_l0, get_l1, get_l2, set_l0, set_l1, set_l2]
    exact .pure rfl q
theorem x_still {day : Rws} {f t : Int} (S : Store) (D : DayR day) : d_hours_still [dayA day, .int f, .int t] S = .ok (.int (still day f t)) S := by
  have hlen := D.len
  refine ok_all fun Q q => wp_fn rfl ?_
  unfold b_hours_still dayA
  with_reducible refine ws_cons fun M hM => ?_
  try simp [-Prod.forall, -Prod.exists, -Bool.exists_bool, -Bool.forall_bool, -getElem?_pos, At, List.getElem?_cons_zero, List.getElem?_cons_succ, get_l0, get_l1, get_l2, set_l0, set_l1, set_l2]
  refine hM _ _ ?_
  with_reducible refine ws_cons fun M hM => ?_
  try simp [-Prod.forall, -Prod.exists, -Bool.exists_bool, -Bool.forall_bool, -getElem?_pos, At, List.getElem?_cons_zero, List.getElem?_cons_succ, get_l0, get_l1, get_l2, set_l0, set_l1, set_l2, fAddF, addFD]
  refine ⟨hz (by decide), hz (by decide), hz (by omega), hM _ _ ?_⟩
  have ea : AV.tup [.int 0, .int 0] :: day.map pairA = ((0, 0) :: day).map pairA := rfl
  rw [ea]
  generalize hE : ((0, 0) :: day) = rows
  have hrl : rows.length ≤ 21 := by rw [← hE]; simp; omega
  with_reducible refine ws_seq (fun ρ S' => S = S' ∧ ∃ x, ρ = [some (.ftp (day.map pairA)), some (.int f), some (.int t), some (.int (still day f t))] ++ x) ?_ ?_
  · intro M hM
    try simp [-Prod.forall, -Prod.exists, -Bool.exists_bool, -Bool.forall_bool, -getElem?_pos, At, List.getElem?_cons_zero, List.getElem?_cons_succ, get_l0, get_l1, get_l2, set_l0, set_l1, set_l2, numD_av]
    refine wp_forM (fun (x : Nat × (Int × Int)) => .tup [.int x.1, pairA x.2]) (numD rows) (fun k ρ S' => ∃ T x5 x6 x7 x8, T + SR f t (rows.drop k) = still day f t ∧ S = S' ∧ ρ = [some (.ftp (day.map pairA)), some (.int f), some (.int t), some (.int T), some (.tup (rows.map pairA)), x5, x6, x7, x8]) ⟨0, _, _, _, _, by rw [List.drop_zero, ← hE]; show 0 + ST 0 0 day f t = _; unfold still; omega, rfl, rfl⟩ (fun _ _ _ _ => by simp) ?_ ?_
    · rintro k x ρ S' hx ⟨T, x5, x6, x7, x8, hT, rfl, rfl⟩ M2 hM2
      obtain ⟨p, hp, rfl⟩ := numD_get hx
      rw [drop_at hp] at hT
      have hT : T + ST p.2 p.1 (rows.drop (k + 1)) f t = still day f t := hT
      rw [ST_step] at hT
      have hk := lt_of_get hp
      try simp [-Prod.forall, -Prod.exists, -Bool.exists_bool, -Bool.forall_bool, -getElem?_pos, At, List.getElem?_cons_zero, List.getElem?_cons_succ, get_l0, get_l1, get_l2, set_l0, set_l1, set_l2, pairA]
      unfold w_hours_still_0
      with_reducible refine ws_cons fun M3 hM3 => ?_
      try simp [-Prod.forall, -Prod.exists, -Bool.exists_bool, -Bool.forall_bool, -getElem?_pos, At, List.getElem?_cons_zero, List.getElem?_cons_succ, get_l0, get_l1, get_l2, set_l0, set_l1, set_l2]
      refine hM3 _ _ ?_
      with_reducible refine ws_seq (fun ρ S' => S = S' ∧ ρ = [some (.ftp (day.map pairA)), some (.int f), some (.int t), some (.int T), some (.tup (rows.map pairA)), some (.int k), some (.int (en t (rows.drop (k + 1)))), some (.int p.1), some (.int p.2)]) ?_ ?_
      · intro M4 hM4
        cases e : rows[k + 1]? with
        | none =>
          have hk2 : ¬ (k : Int) + 1 < rows.length := by
            have := List.getElem?_eq_none_iff.1 e
            omega
          have e2 : rows.drop (k + 1) = [] := List.drop_eq_nil_iff.2 (List.getElem?_eq_none_iff.1 e)
          rw [e2] at hM4
          try simp [-Prod.forall, -Prod.exists, -Bool.exists_bool, -Bool.forall_bool, -getElem?_pos, At, List.getElem?_cons_zero, List.getElem?_cons_succ, get_l0, get_l1, get_l2, set_l0, set_l1, set_l2, hk2]
          exact hM4 _ _ ⟨rfl, rfl⟩
        | some y =>
          have hk2 := lt_of_get e
          have hk2 : (k : Int) + 1 < rows.length := by omega
          rw [drop_at e] at hM4
          try simp [-Prod.forall, -Prod.exists, -Bool.exists_bool, -Bool.forall_bool, -getElem?_pos, At, List.getElem?_cons_zero, List.getElem?_cons_succ, get_l0, get_l1, get_l2, set_l0, set_l1, set_l2, hk2, at_c1 e]
          try simp [-Prod.forall, -Prod.exists, -Bool.exists_bool, -Bool.forall_bool, -getElem?_pos, At, List.getElem?_cons_zero, List.getElem?_cons_succ, get_l0, get_l1, get_l2, set_l0, set_l1, set_l2, pairA]
          exact hM4 _ _ ⟨rfl, rfl⟩
      · rintro ρ S' ⟨rfl, rfl⟩
        unfold SE at hT
        generalize en t (rows.drop (k + 1)) = E at *
        have em : (if p.1 < f then f else p.1) = mx p.1 f := rfl
        try simp [-Prod.forall, -Prod.exists, -Bool.exists_bool, -Bool.forall_bool, -getElem?_pos, At, List.getElem?_cons_zero, List.getElem?_cons_succ, get_l0, get_l1, get_l2, set_l0, set_l1, set_l2, em]
        by_cases h0 : p.2 = 0
        · by_cases h1 : mx p.1 f < E
          · rw [if_pos ⟨h0, h1⟩] at hT
            try simp [-Prod.forall, -Prod.exists, -Bool.exists_bool, -Bool.forall_bool, -getElem?_pos, At, List.getElem?_cons_zero, List.getElem?_cons_succ, get_l0, get_l1, get_l2, set_l0, set_l1, set_l2, h0, h1]
            exact ⟨hM2 _ _ ⟨T + (E - mx p.1 f), _, _, _, _, by omega, rfl, rfl⟩, fun _ => by omega⟩
          · rw [if_neg fun z => h1 z.2] at hT
            try simp [-Prod.forall, -Prod.exists, -Bool.exists_bool, -Bool.forall_bool, -getElem?_pos, At, List.getElem?_cons_zero, List.getElem?_cons_succ, get_l0, get_l1, get_l2, set_l0, set_l1, set_l2, h0, h1]
            exact fun _ => hM2 _ _ ⟨T, _, _, _, _, by omega, rfl, rfl⟩
        · rw [if_neg fun z => h0 z.1] at hT
          try simp [-Prod.forall, -Prod.exists, -Bool.exists_bool, -Bool.forall_bool, -getElem?_pos, At, List.getElem?_cons_zero, List.getElem?_cons_succ, get_l0, get_l1, get_l2, set_l0, set_l1, set_l2, h0]
          exact hM2 _ _ ⟨T, _, _, _, _, by omega, rfl, rfl⟩
    · rintro ρ S' ⟨T, x5, x6, x7, x8, hT, rfl, rfl⟩
      rw [numD_len, List.drop_length] at hT
      have : T = still day f t := by rw [← hT]; simp [SR]
      subst this
      exact hM _ _ ⟨rfl, _, rfl⟩
  · rintro ρ S' ⟨rfl, x, rfl⟩
    try simp [-Prod.forall, -Prod.exists, -Bool.exists_bool, -Bool.forall_bool, -getElem?_pos, At, List.getElem?_cons_zero, List.getElem?_cons_succ, get_l0, get_l1, get_l2, set_l0, set_l1, set_l2]
    exact .pure rfl q
def oI : Option Int → AV
  | none => .non
  | some h => .int h
theorem wp_hour_at {day : Rws} {r : Int} {S : Store} {Q : AV → Store → Prop} (D : DayR day) (h1 : 1 ≤ r) (q : ∀ o, Least day r o → Q (oI o) S) : wp (d_hour_at [dayA day, .int r] S) Q := by
  have hlen := D.len
  refine wp_fn rfl ?_
  unfold b_hour_at
  with_reducible refine ws_cons fun M hM => ?_
  try simp [-Prod.forall, -Prod.exists, -Bool.exists_bool, -Bool.forall_bool, -getElem?_pos, At, List.getElem?_cons_zero, List.getElem?_cons_succ, get_l0, get_l1, get_l2, set_l0, set_l1, set_l2, show ¬ r = 0 by omega]
  refine hM _ _ ?_
  with_reducible refine ws_seq (fun ρ S' => S = S' ∧ Least day r none) ?_ ?_
  · intro M hM
    have ew : enD (dayA day) S = .ok ((numD day).map fun x => .tup [.int x.1, pairA x.2], []) S := by
      unfold dayA
      rw [en_ftp, numD_av]
    try simp [-Prod.forall, -Prod.exists, -Bool.exists_bool, -Bool.forall_bool, -getElem?_pos, At, List.getElem?_cons_zero, List.getElem?_cons_succ, get_l0, get_l1, get_l2, set_l0, set_l1, set_l2, ew]
    refine wp_forM (fun (x : Nat × (Int × Int)) => .tup [.int x.1, pairA x.2]) (numD day) (fun k ρ S' => (∀ h, 0 ≤ h → (∀ y, day[k]? = some y → h ≤ y.1) → run day h < r) ∧ S = S' ∧ ∃ x2 x3 x4 x5 x6, ρ = [some (dayA day), some (.int r), x2, x3, x4, x5, x6]) ⟨fun h h0 hy => ?_, rfl, _, _, _, _, _, rfl⟩ (fun _ _ _ _ => by simp) ?_ ?_
    · have : run day h = 0 := by
        cases day with
        | nil => simp [run_RT, RT]
        | cons y l =>
          have h2 := hy y rfl
          rw [run_RT]
          exact RN_low (D.up.2.le (by omega)) h2
      omega
    · rintro k x ρ S' hx ⟨hJ, rfl, x2, x3, x4, x5, x6, rfl⟩ M2 hM2
      obtain ⟨p, hp, rfl⟩ := numD_get hx
      have hpm := List.mem_of_getElem? hp
      have hp1 := D.p p hpm
      have hp2 := D.up.all p hpm
      have hp3 := D.h9 p hpm
      have hk := lt_of_get hp
      have hb := hJ p.1 hp2 fun y hy => by
        rw [hp] at hy
        cases hy
        exact Int.le_refl _
      try simp [-Prod.forall, -Prod.exists, -Bool.exists_bool, -Bool.forall_bool, -getElem?_pos, At, List.getElem?_cons_zero, List.getElem?_cons_succ, get_l0, get_l1, get_l2, set_l0, set_l1, set_l2, pairA]
      unfold w_hour_at_0
      with_reducible refine ws_cons fun M3 hM3 => ?_
      try simp [-Prod.forall, -Prod.exists, -Bool.exists_bool, -Bool.forall_bool, -getElem?_pos, At, List.getElem?_cons_zero, List.getElem?_cons_succ, get_l0, get_l1, get_l2, set_l0, set_l1, set_l2, x_run_at _ D hp2 (show p.1 ≤ big by unfold big; omega)]
      refine hM3 _ _ ?_
      by_cases h0 : p.2 = 0
      · try simp [-Prod.forall, -Prod.exists, -Bool.exists_bool, -Bool.forall_bool, -getElem?_pos, At, List.getElem?_cons_zero, List.getElem?_cons_succ, get_l0, get_l1, get_l2, set_l0, set_l1, set_l2, h0]
        refine hM2 _ _ ⟨fun h hh hy => ?_, rfl, _, _, _, _, _, rfl⟩
        by_cases h2 : h ≤ p.1
        · exact hJ h hh fun y hy2 => by
            rw [hp] at hy2
            cases hy2
            exact h2
        · rw [run_row D.up hp (by omega) hy, h0]
          omega
      · have hpos : 0 < p.2 := by omega
        generalize hl : r - run day p.1 = lf at *
        generalize hh : p.1 + (lf + p.2 - 1) / p.2 = hr
        have c1 : lf ≤ p.2 * (hr - p.1) ∧ p.2 * (hr - p.1 - 1) < lf ∧ p.1 < hr := by
          have e := Int.mul_ediv_add_emod (lf + p.2 - 1) p.2
          have m0 := Int.emod_nonneg (lf + p.2 - 1) (show p.2 ≠ 0 by omega)
          have m1 := Int.emod_lt_of_pos (lf + p.2 - 1) hpos
          have e2 : hr - p.1 = (lf + p.2 - 1) / p.2 := by omega
          rw [e2, Int.mul_sub, Int.mul_one]
          have hq : 1 ≤ (lf + p.2 - 1) / p.2 := (Int.le_ediv_iff_mul_le hpos).2 (by omega)
          omega
        have hbelow : ∀ h, 0 ≤ h → h < hr → (∀ y, day[k + 1]? = some y → h ≤ y.1) → run day h < r := fun h hh hlt hy => by
          by_cases h2 : h ≤ p.1
          · exact hJ h hh fun y hy2 => by
              rw [hp] at hy2
              cases hy2
              exact h2
          · rw [run_row D.up hp (by omega) hy]
            have := Int.mul_le_mul_of_nonneg_left (show h - p.1 ≤ hr - p.1 - 1 by omega) (show 0 ≤ p.2 by omega)
            omega
        have fin : (∀ y, day[k + 1]? = some y → hr ≤ y.1) → Least day r (some hr) := fun hy => by
          refine ⟨by omega, ?_, fun g g0 g1 => hbelow g g0 g1 fun y hy2 => by have := hy y hy2; omega⟩
          rw [run_row D.up hp (by omega) hy]
          omega
        try simp [-Prod.forall, -Prod.exists, -Bool.exists_bool, -Bool.forall_bool, -getElem?_pos, At, List.getElem?_cons_zero, List.getElem?_cons_succ, get_l0, get_l1, get_l2, set_l0, set_l1, set_l2, hpos, fit_c p.2 (by omega) (by omega), hh]
        cases e : day[k + 1]? with
        | none =>
          have hk2 : (k : Int) + 1 = day.length := by
            have := List.getElem?_eq_none_iff.1 e
            omega
          try simp [-Prod.forall, -Prod.exists, -Bool.exists_bool, -Bool.forall_bool, -getElem?_pos, At, List.getElem?_cons_zero, List.getElem?_cons_succ, get_l0, get_l1, get_l2, set_l0, set_l1, set_l2, dayA, hk2]
          exact .pure rfl (q (some hr) (fin fun y hy => by rw [e] at hy; cases hy))
        | some y =>
          have hk2 := lt_of_get e
          have hk2 : ¬ (k : Int) + 1 = day.length := by omega
          have eat : atI (day.map pairA) ((k : Int) + 1) = some (.tup [.int y.1, .int y.2]) := at_c1 e
          try simp [-Prod.forall, -Prod.exists, -Bool.exists_bool, -Bool.forall_bool, -getElem?_pos, At, List.getElem?_cons_zero, List.getElem?_cons_succ, get_l0, get_l1, get_l2, set_l0, set_l1, set_l2, dayA, hk2, eat]
          refine ⟨fun hle => .pure rfl (q (some hr) (fin fun z hz => by rw [e] at hz; cases hz; exact hle)), fun hgt => ?_⟩
          refine hM2 _ _ ⟨fun h hh hy => hbelow h hh ?_ hy, rfl, _, _, _, _, _, rfl⟩
          have := hy y e
          omega
    · rintro ρ S' ⟨hJ, rfl, x2, x3, x4, x5, x6, rfl⟩
      refine hM _ _ ⟨rfl, fun g g0 => hJ g g0 fun y hy => ?_⟩
      rw [numD_len, List.getElem?_eq_none (Nat.le_refl _)] at hy
      cases hy
  · rintro ρ S' ⟨rfl, h⟩
    try simp [-Prod.forall, -Prod.exists, -Bool.exists_bool, -Bool.forall_bool, -getElem?_pos, At, List.getElem?_cons_zero, List.getElem?_cons_succ, get_l0, get_l1, get_l2, set_l0, set_l1, set_l2]
    exact .pure rfl (q none h)
theorem at_last {l : List AV} {a : AV} : atI (l ++ [a]) (-1) = some a := by
  unfold atI
  have e : ixN (l ++ [a]).length (-1) = some l.length := by
    unfold ixN
    simp
    omega
  rw [e]
  simp
end VI

set_option maxRecDepth 100000
/-! LQA: days of near hours drawn; what runs at an hour. -/
namespace VI
open PySem PySem.Spec PyProof.Rows L2
noncomputable def c_law_near_day_0 : E := (.comp false [5] (.n 5) (.itv (.v 1)) (.ix (.v 5) (.c (.int 1))) .nop)
noncomputable def w_law_near_day_0 : St := (.cons (.asg (.n 4) (.ix (.lst false (.cons (.c (.int 0)) (.cons (.c (.int 1)) (.cons (.bin false .add (.c (.int 1)) (.call (Str.ofString "_law_take") d_law_take (.cons (.v 0) (.cons (.c (.int 9)) .nil)))) (.cons (.call (Str.ofString "_law_take") d_law_take (.cons (.v 0) (.cons (.c (.int 1001)) .nil))) .nil))))) (.call (Str.ofString "_law_take") d_law_take (.cons (.v 0) (.cons (.c (.int 4)) .nil)))))
    (.cons (.ifs (.cmp .ne (.v 4) (.ix (.bin false .add (.lst false (.cons (.c (.int 0)) .nil)) c_law_near_day_0) (.neg (.c (.int 1))))) (.cons (.ex (.met false .append (.v 1) (.cons (.tup (.cons (.v 2) (.cons (.v 4) .nil))) .nil)))
    .nil) .nil)
    (.cons (.asg (.n 2) (.bin false .add (.bin false .add (.v 2) (.c (.int 1))) (.call (Str.ofString "_law_take") d_law_take (.cons (.v 0) (.cons (.c (.int 4)) .nil)))))
    .nil)))
noncomputable def b_law_near_day : St :=
  (.cons (.asg (.n 1) (.lst true .nil))
    (.cons (.asg (.n 2) (.call (Str.ofString "_law_take") d_law_take (.cons (.v 0) (.cons (.c (.int 4)) .nil))))
    (.cons (.for (.n 3) (.it1 (.call (Str.ofString "_law_take") d_law_take (.cons (.v 0) (.cons (.c (.int 21)) .nil)))) w_law_near_day_0)
    (.cons (.ret (.ext fTupF (.cons (.v 1) .nil)))
    .nil))))
noncomputable def d_law_near_day : Fn := mkFn false 1 6 b_law_near_day

@[simp] theorem pw9k : (10 : Int) ^ (9 : Int).toNat = 1000000000 := by decide
theorem up_pw : ∀ {l : Rws} {a : Int}, Up a l → (l.map (·.1)).Pairwise (· < ·)
  | [], _, _ => .nil
  | x :: l, a, u => .cons (fun y hy => by
      obtain ⟨z, hz, rfl⟩ := List.mem_map.1 hy
      have := u.2.all z hz
      show x.1 < z.1
      omega) (up_pw u.2)
def lp (c : Int) : Rws → Int
  | [] => c
  | x :: l => lp x.2 l
theorem lp_at : ∀ (l : Rws) (c : Int), ∃ ks : List AV, AV.int c :: l.map (fun x => .int x.2) = ks ++ [.int (lp c l)]
  | [], c => ⟨[], rfl⟩
  | x :: l, c => by
    obtain ⟨ks, e⟩ := lp_at l x.2
    exact ⟨.int c :: ks, by rw [List.map_cons, e]; rfl⟩
theorem Canon.snoc : ∀ {l : Rws} {c lo : Int} {y : Int × Int}, Canon c lo l → (∀ x ∈ l, x.1 < y.1) → lo ≤ y.1 → y.2 ≠ lp c l → Canon c lo (l ++ [y])
  | [], c, lo, y, _, _, h, k => ⟨h, k, trivial⟩
  | x :: l, c, lo, y, u, q, h, k => ⟨u.1, u.2.1, u.2.2.snoc (fun z hz => q z (.tail _ hz)) (by have := q x (.head _); omega) k⟩
theorem wp_near {S : Store} {i : Nat} {b : Bag} {Q : AV → Store → Prop} (h : S[i]? = some b.o)
    (q : ∀ (rows : Rws) (b' : Bag), Canon 0 0 rows → (∀ x ∈ rows, 0 ≤ x.2 ∧ x.2 ≤ 1000) → rows.length ≤ 20 → (∀ x ∈ rows, x.1 ≤ 100) → Q (dayA rows) (S.set i b'.o)) : wp (d_law_near_day [.loc i] S) Q := by
  have hi := lt_of_get h
  refine wp_fn rfl ?_
  unfold b_law_near_day
  with_reducible refine ws_cons fun M hM => ?_
  try simp [-Prod.forall, -Prod.exists, -Bool.exists_bool, -Bool.forall_bool, -getElem?_pos, At, List.getElem?_cons_zero, List.getElem?_cons_succ, get_l0, get_l1, get_l2, set_l0, set_l1, set_l2]
  refine hM _ _ ?_
  with_reducible refine ws_cons fun M hM => ?_
  try simp [-Prod.forall, -Prod.exists, -Bool.exists_bool, -Bool.forall_bool, -getElem?_pos, At, List.getElem?_cons_zero, List.getElem?_cons_succ, get_l0, get_l1, get_l2, set_l0, set_l1, set_l2]
  refine wp_tk (b := b) (by simp [gB hi, h]) (by first | decide | omega) (by first | decide | omega) ?_
  intro h0 b1 h00 h01
  try simp [-Prod.forall, -Prod.exists, -Bool.exists_bool, -Bool.forall_bool, -getElem?_pos, At, List.getElem?_cons_zero, List.getElem?_cons_succ, get_l0, get_l1, get_l2, set_l0, set_l1, set_l2, sB hi]
  refine hM _ _ ?_
  with_reducible refine ws_seq (fun ρ S' => ∃ (rows : Rws) (b' : Bag), Canon 0 0 rows ∧ (∀ x ∈ rows, 0 ≤ x.2 ∧ x.2 ≤ 1000) ∧ rows.length ≤ 20 ∧ (∀ x ∈ rows, x.1 ≤ 100) ∧ S' = S.set i b'.o ++ [.lst (rows.map pairA)] ∧ ∃ x, ρ = [some (.loc i), some (.loc S.length)] ++ x) ?_ ?_
  · intro M hM
    try simp [-Prod.forall, -Prod.exists, -Bool.exists_bool, -Bool.forall_bool, -getElem?_pos, At, List.getElem?_cons_zero, List.getElem?_cons_succ, get_l0, get_l1, get_l2, set_l0, set_l1, set_l2]
    refine wp_tk (b := b1) (by simp [gb hi]) (by first | decide | omega) (by first | decide | omega) ?_
    intro r b2 r0 r1
    try simp [-Prod.forall, -Prod.exists, -Bool.exists_bool, -Bool.forall_bool, -getElem?_pos, At, List.getElem?_cons_zero, List.getElem?_cons_succ, get_l0, get_l1, get_l2, set_l0, set_l1, set_l2, sb' hi]
    refine ⟨by omega, ?_⟩
    rw [rangeI_av]
    refine wp_forM AV.int (rangeI r) (fun k ρ S' => ∃ (rows : Rws) (b' : Bag) (hr : Int) (x4 x5 x6 : Option AV), Canon 0 0 rows ∧ (∀ x ∈ rows, 0 ≤ x.2 ∧ x.2 ≤ 1000) ∧ rows.length ≤ k ∧ (0 ≤ hr ∧ hr ≤ 3 + 4 * k) ∧ (∀ x ∈ rows, x.1 < hr) ∧ S' = S.set i b'.o ++ [.lst (rows.map pairA)] ∧ ρ = [some (.loc i), some (.loc S.length), some (.int hr), x4, x5, x6]) ⟨[], b2, h0, _, _, _, trivial, by simp, by simp, ⟨h00, by simp; omega⟩, by simp, rfl, rfl⟩ (fun _ _ _ _ => by simp) ?_ ?_
    · rintro k a ρ S' ha ⟨rows, b3, hr, x4, x5, x6, hc, hp, hl, hr0, hlt, rfl, rfl⟩ M2 hM2
      have hk : k < 20 := by
        have := lt_of_get ha
        rw [len_rangeI] at this
        omega
      refine ⟨_, tg_n _ _ _, ?_⟩
      unfold w_law_near_day_0
      with_reducible refine ws_cons fun M3 hM3 => ?_
      try simp [-Prod.forall, -Prod.exists, -Bool.exists_bool, -Bool.forall_bool, -getElem?_pos, At, List.getElem?_cons_zero, List.getElem?_cons_succ, get_l0, get_l1, get_l2, set_l0, set_l1, set_l2]
      refine wp_tk (b := b3) (by simp [gb hi]) (by first | decide | omega) (by first | decide | omega) ?_
      intro u b4 u0 u1
      try simp [-Prod.forall, -Prod.exists, -Bool.exists_bool, -Bool.forall_bool, -getElem?_pos, At, List.getElem?_cons_zero, List.getElem?_cons_succ, get_l0, get_l1, get_l2, set_l0, set_l1, set_l2, sb' hi]
      refine wp_tk (b := b4) (by simp [gb hi]) (by first | decide | omega) (by first | decide | omega) ?_
      intro v b5 v0 v1
      try simp [-Prod.forall, -Prod.exists, -Bool.exists_bool, -Bool.forall_bool, -getElem?_pos, At, List.getElem?_cons_zero, List.getElem?_cons_succ, get_l0, get_l1, get_l2, set_l0, set_l1, set_l2, sb' hi]
      refine ⟨hz (by decide), ?_⟩
      refine wp_tk (b := b5) (by simp [gb hi]) (by first | decide | omega) (by first | decide | omega) ?_
      intro w b6 w0 w1
      obtain ⟨pc, hpc, e⟩ := pick (l := [0, 1, 1 + u, v]) w0 (by simp; omega)
      have e : atI [AV.int 0, AV.int 1, AV.int (1 + u), AV.int v] w = some (.int pc) := e
      have hpc : 0 ≤ pc ∧ pc ≤ 1000 := by
        simp at hpc
        rcases hpc with rfl | rfl | rfl | rfl <;> omega
      try simp [-Prod.forall, -Prod.exists, -Bool.exists_bool, -Bool.forall_bool, -getElem?_pos, At, List.getElem?_cons_zero, List.getElem?_cons_succ, get_l0, get_l1, get_l2, set_l0, set_l1, set_l2, sb' hi, e]
      refine hM3 _ _ ?_
      obtain ⟨ks, ek⟩ := lp_at rows 0
      with_reducible refine ws_seq (fun ρ S' => ∃ (rows2 : Rws), Canon 0 0 rows2 ∧ (∀ x ∈ rows2, 0 ≤ x.2 ∧ x.2 ≤ 1000) ∧ rows2.length ≤ k + 1 ∧ (∀ x ∈ rows2, x.1 < hr + 1) ∧ S' = S.set i b6.o ++ [.lst (rows2.map pairA)] ∧ ρ = [some (.loc i), some (.loc S.length), some (.int hr), some (.int a), some (.int pc), x6]) ?_ ?_
      · intro M4 hM4
        try simp [-Prod.forall, -Prod.exists, -Bool.exists_bool, -Bool.forall_bool, -getElem?_pos, At, List.getElem?_cons_zero, List.getElem?_cons_succ, get_l0, get_l1, get_l2, set_l0, set_l1, set_l2, c_law_near_day_0, E.isNop, g0]
        refine ⟨hz (by decide), ?_⟩
        rw [comp_pure pairA (fun _ => true) (fun x => .int x.2) (fun p hp => by rw [List.mem_singleton.1 hp]; exact g0) rows (sizeL (by omega)) ?_, List.filter_eq_self.2 (by simp)]
        · try simp [-Prod.forall, -Prod.exists, -Bool.exists_bool, -Bool.forall_bool, -getElem?_pos, At, List.getElem?_cons_zero, List.getElem?_cons_succ, get_l0, get_l1, get_l2, set_l0, set_l1, set_l2, ek, at_last, g0, s0]
          refine ⟨hz (by omega), fun hne => ⟨hz (by decide), hzl (by omega), ?_⟩, fun he => ?_⟩
          · refine hM4 _ _ ⟨rows ++ [(hr, pc)], hc.snoc hlt hr0.1 hne, ?_, by simp; omega, ?_, by simp [pairA], rfl⟩
            · intro x hx
              rcases List.mem_append.1 hx with hx | hx
              · exact hp x hx
              · rw [List.mem_singleton.1 hx]; exact hpc
            · intro x hx
              rcases List.mem_append.1 hx with hx | hx
              · have := hlt x hx; omega
              · rw [List.mem_singleton.1 hx]; simp only; omega
          · exact hM4 _ _ ⟨rows, hc, hp, by omega, fun x hx => by have := hlt x hx; omega, rfl, rfl⟩
        · intro x hx
          refine ⟨_, tg_n _ _ _, ?_⟩
          try simp [-Prod.forall, -Prod.exists, -Bool.exists_bool, -Bool.forall_bool, -getElem?_pos, At, List.getElem?_cons_zero, List.getElem?_cons_succ, get_l0, get_l1, get_l2, set_l0, set_l1, set_l2, pairA]
      · rintro ρ S' ⟨rows2, hc2, hp2, hl2, hlt2, rfl, rfl⟩
        try simp [-Prod.forall, -Prod.exists, -Bool.exists_bool, -Bool.forall_bool, -getElem?_pos, At, List.getElem?_cons_zero, List.getElem?_cons_succ, get_l0, get_l1, get_l2, set_l0, set_l1, set_l2]
        refine wp_tk (b := b6) (by simp [gb hi]) (by first | decide | omega) (by first | decide | omega) ?_
        intro y b8 y0 y1
        try simp [-Prod.forall, -Prod.exists, -Bool.exists_bool, -Bool.forall_bool, -getElem?_pos, At, List.getElem?_cons_zero, List.getElem?_cons_succ, get_l0, get_l1, get_l2, set_l0, set_l1, set_l2, sb' hi]
        exact hM2 _ _ ⟨rows2, b8, hr + 1 + y, _, _, _, hc2, hp2, by omega, by omega, fun x hx => by have := hlt2 x hx; omega, rfl, rfl⟩
    · rintro ρ S' ⟨rows, b3, hr, x4, x5, x6, hc, hp, hl, hr0, hlt, rfl, rfl⟩
      rw [len_rangeI] at hl hr0
      exact hM _ _ ⟨rows, b3, hc, hp, by omega, fun x hx => by have := hlt x hx; omega, rfl, _, rfl⟩
  · rintro ρ S' ⟨rows, b', hc, hp, hl, h9, rfl, x, rfl⟩
    try simp [-Prod.forall, -Prod.exists, -Bool.exists_bool, -Bool.forall_bool, -getElem?_pos, At, List.getElem?_cons_zero, List.getElem?_cons_succ, get_l0, get_l1, get_l2, set_l0, set_l1, set_l2, fTupF, g0]
    exact .setA (dayA_nl _) rfl (q rows b' hc hp hl h9)
/-! what runs at an hour, by the one ahead -/
theorem F_next : ∀ {l : Rws} {c lo h : Int}, Up lo l → lo ≤ h → F c l h = ((l.find? fun x => decide (x.1 = h)).map (·.2)).getD (F c l (h - 1))
  | [], c, lo, h, _, _ => rfl
  | x :: l, c, lo, h, u, hh => by
    have hall := u.2.all
    by_cases c1 : h < x.1
    · have hf : (x :: l).find? (fun y => decide (y.1 = h)) = none := by
        rw [List.find?_eq_none]
        intro y hy
        rcases List.mem_cons.1 hy with rfl | hy
        · simp; omega
        · have := hall y hy
          simp; omega
      rw [hf]
      simp only [F, if_pos c1, Option.map_none, Option.getD_none]
      rw [if_pos (by omega)]
    · by_cases c2 : x.1 = h
      · rw [List.find?_cons_of_pos (by simpa using c2)]
        simp only [F, if_neg c1, Option.map_some, Option.getD_some]
        exact F_low fun y hy => by have := hall y hy; omega
      · rw [List.find?_cons_of_neg (by simpa using c2)]
        simp only [F, if_neg c1]
        rw [if_neg (by omega)]
        exact F_next u.2 (by omega)
end VI

set_option maxRecDepth 100000
/-! LQB: the first hour by which so far is run, sought among 121 hours. -/
namespace VI
open PySem PySem.Spec PyProof.Rows L2
theorem F_far : ∀ {l : Rws} {c h g : Int}, (∀ x ∈ l, x.1 ≤ h) → (∀ x ∈ l, x.1 ≤ g) → F c l h = F c l g
  | [], _, _, _, _, _ => rfl
  | x :: l, c, h, g, q, r => by
    have q0 := q x (.head _)
    have r0 := r x (.head _)
    simp only [F]
    rw [if_neg (by omega), if_neg (by omega)]
    exact F_far (fun y hy => q y (.tail _ hy)) fun y hy => r y (.tail _ hy)
/-- a day of near hours -/
structure Nr (day : Rws) : Prop where
  can : Canon 0 0 day
  p : ∀ x ∈ day, 0 ≤ x.2 ∧ x.2 ≤ 1000
  len : day.length ≤ 20
  near : ∀ x ∈ day, x.1 ≤ 100
section
variable {day : Rws} (N : Nr day)
include N
theorem Nr.d : DayR day := ⟨N.len, N.can.up, fun x hx => by have := N.near x hx; omega, N.p⟩
theorem Nr.last {h : Int} (hh : 119 ≤ h) : F 0 day h = F 0 day 119 := F_far (fun x hx => by have := N.near x hx; omega) fun x hx => by have := N.near x hx; omega
theorem Nr.pace (h : Int) : 0 ≤ F 0 day h ∧ F 0 day h ≤ 1000 := by
  rcases F_mem (l := day) (c := 0) (h := h) with e | ⟨x, hx, e⟩
  · omega
  · rw [e]; exact N.p x hx
theorem Nr.run_far {k : Int} (hk : 0 ≤ k) : run day (119 + k) = run day 119 + k * F 0 day 119 := by
  refine int_up (P := fun k => run day (119 + k) = run day 119 + k * F 0 day 119) (by simp) (fun k hk ih => ?_) k hk
  rw [show 119 + (k + 1) = 119 + k + 1 by omega, run_succ N.can.up (by omega), ih, N.last (h := 119 + k) (by omega), Int.add_mul]
  omega
theorem Nr.run_bd {h : Int} (hh : 0 ≤ h) : 0 ≤ run day h ∧ run day h ≤ 1000 * h := by
  refine int_up (P := fun h => 0 ≤ run day h ∧ run day h ≤ 1000 * h) ?_ (fun h hh ih => ?_) h hh
  · rw [run_low N.can.up (Int.le_refl _)]; omega
  · rw [run_succ N.can.up hh]
    have := N.pace h
    omega
theorem Nr.grow {r : Int} (hr : 0 ≤ r) (hp : F 0 day 119 ≠ 0) : r ≤ run day (119 + r) := by
  have h1 := N.pace 119
  have h2 := N.run_far hr
  have h3 := (N.run_bd (h := 119) (by omega)).1
  have : r * 1 ≤ r * F 0 day 119 := Int.mul_le_mul_of_nonneg_left (by omega) hr
  omega
theorem Nr.stand {h : Int} (hh : 119 ≤ h) (hp : F 0 day 119 = 0) : run day h = run day 119 := by
  have := N.run_far (k := h - 119) (by omega)
  rw [hp, show 119 + (h - 119) = h by omega] at this
  omega
theorem Nr.bd {r g : Int} (hr : 0 ≤ r) (h : Least day r (some g)) : 0 ≤ g ∧ g ≤ 120 + r := by
  refine ⟨h.1, ?_⟩
  rcases Int.lt_or_le (120 + r) g with q | q
  · exfalso
    have h2 := h.2.2 (119 + r) (by omega) (by omega)
    by_cases hp : F 0 day 119 = 0
    · have h3 := N.stand (h := g) (by omega) hp
      have h4 := N.stand (h := 119 + r) (by omega) hp
      have := h.2.1
      omega
    · have := N.grow hr hp
      omega
  · exact q
theorem Nr.nil {r : Int} {o : Option Int} (hr : 0 ≤ r) (ho : Least day r o) (hd : ∀ h, 0 ≤ h → h < 121 → run day h < r) : o = none ↔ F 0 day 119 = 0 := by
  constructor
  · rintro rfl
    rcases Int.lt_or_le 0 (F 0 day 119) with q | q
    · have h1 := N.grow hr (show F 0 day 119 ≠ 0 by omega)
      have h2 := ho (119 + r) (by omega)
      omega
    · have := (N.pace 119).1
      omega
  · intro hp
    cases o with
    | none => rfl
    | some g =>
      exfalso
      have h1 := ho.2.1
      rcases Int.lt_or_le g 121 with q | q
      · have := hd g ho.1 q
        omega
      · have h2 := N.stand (h := g) (by omega) hp
        have h3 := hd 119 (by omega) (by omega)
        omega
end
/-- the hours, of 121, at which so far is run -/
def dueH (day : Rws) (r : Int) : List Int := (rangeI 121).filter fun h => decide (r ≤ run day h)
theorem pw_rg (n : Int) : (rangeI n).Pairwise (· < ·) := by
  unfold rangeI
  rw [List.pairwise_map]
  exact List.pairwise_lt_range.imp fun h => by omega
theorem due_nil {day : Rws} {r : Int} (h : dueH day r = []) : ∀ g, 0 ≤ g → g < 121 → run day g < r := by
  intro g g0 g1
  rcases Int.lt_or_le (run day g) r with q | q
  · exact q
  · have : g ∈ dueH day r := List.mem_filter.2 ⟨mem_rangeI.2 ⟨g0, g1⟩, by simpa using q⟩
    rw [h] at this
    cases this
theorem due_cons {day : Rws} {r x : Int} {l : List Int} (h : dueH day r = x :: l) : Least day r (some x) := by
  have hx : x ∈ dueH day r := by rw [h]; exact .head _
  obtain ⟨h1, h2⟩ := List.mem_filter.1 hx
  have h1 := mem_rangeI.1 h1
  refine ⟨h1.1, by simpa using h2, fun g g0 g1 => ?_⟩
  rcases Int.lt_or_le (run day g) r with q | q
  · exact q
  · exfalso
    have hg : g ∈ dueH day r := List.mem_filter.2 ⟨mem_rangeI.2 ⟨g0, by omega⟩, by simpa using q⟩
    have pw : (dueH day r).Pairwise (· < ·) := List.Pairwise.filter _ (pw_rg 121)
    rw [h] at pw hg
    rcases List.mem_cons.1 hg with rfl | hg
    · omega
    · have := (List.pairwise_cons.1 pw).1 g hg
      omega
theorem still_part {day : Rws} (u : Up 0 day) {f t : Int} (h0 : 0 ≤ f) (h : f ≤ t) : still day f t = still day 0 t - still day 0 f := by
  refine int_up (P := fun t => still day f t = still day 0 t - still day 0 f) ?_ (fun t ht ih => ?_) t h
  · rw [still_low u (Int.le_refl _)]; omega
  · rw [still_succ u h0 ht, still_succ u (Int.le_refl _) (by omega), ih]; omega
theorem still_0 {day : Rws} (u : Up 0 day) : still day 0 0 = 0 := still_low u (Int.le_refl _)
end VI

set_option maxRecDepth 100000
/-! K06: runs by the hour. -/
namespace VI
open PySem PySem.Spec PyProof.Rows L2
noncomputable def c_law_0 : E := (.comp false [15] (.n 15) (.itv (.v 11)) (.bin false .add (.v 15) (.c (.int 1))) .nop)
noncomputable def c_law_1 : E := (.comp false [8] (.n 8) (.it1 (.c (.int 121))) (.v 8) (.cmp .ge (.ix (.v 6) (.v 8)) (.v 12)))
noncomputable def w_law_0 : St := (.cons (.asg (.n 13) c_law_1)
    (.cons (.asg (.n 14) (.call (Str.ofString "hour_at") d_hour_at (.cons (.v 3) (.cons (.v 12) .nil))))
    (.cons (.ifs (.or (.and (.cmp .ne (.v 13) (.lst false .nil)) (.cmp .ne (.v 14) (.ix (.v 13) (.c (.int 0))))) (.and (.cmp .eq (.v 13) (.lst false .nil)) (.cmp .ne (.cmp .is (.v 14) (.c .non)) (.cmp .eq (.v 5) (.c (.int 0)))))) (.cons (.ret (.c (.bl false)))
    .nil) .nil)
    (.cons (.ifs (.and (.cmp .isn (.v 14) (.c .non)) (.cmp .lt (.call (Str.ofString "run_at") d_run_at (.cons (.v 3) (.cons (.v 14) .nil))) (.v 12))) (.cons (.ret (.c (.bl false)))
    .nil) .nil)
    (.cons (.ifs (.and (.cmp .isn (.v 14) (.c .non)) (.and (.cmp .gt (.v 14) (.c (.int 0))) (.cmp .ge (.call (Str.ofString "run_at") d_run_at (.cons (.v 3) (.cons (.bin false .sub (.v 14) (.c (.int 1))) .nil))) (.v 12)))) (.cons (.ret (.c (.bl false)))
    .nil) .nil)
    .nil)))))
noncomputable def w_law_1 : St := (.cons (.ifs (.cmp .ne (.call (Str.ofString "hours_still") d_hours_still (.cons (.v 3) (.cons (.v 9) (.cons (.v 10) .nil)))) (.bin false .sub (.ix (.v 7) (.v 10)) (.ix (.v 7) (.v 9)))) (.cons (.ret (.c (.bl false)))
    .nil) .nil)
    .nil)
noncomputable def c_law_2 : E := (.comp false [8] (.n 8) (.it1 (.c (.int 120))) (.call (Str.ofString "run_at") d_run_at (.cons (.v 3) (.cons (.v 8) .nil))) .nop)
noncomputable def w_law_2 : St := (.cons (.asg (.n 5) (.ext fGet2 (.cons (.v 4) (.cons (.v 8) (.cons (.v 5) .nil)))))
    (.cons (.ex (.met false .append (.v 6) (.cons (.bin false .add (.ix (.v 6) (.neg (.c (.int 1)))) (.v 5)) .nil)))
    (.cons (.ex (.met false .append (.v 7) (.cons (.bin false .add (.ix (.v 7) (.neg (.c (.int 1)))) (.prim false .int (.cons (.cmp .eq (.v 5) (.c (.int 0))) .nil))) .nil)))
    .nil)))
noncomputable def w_law_3 : St := (.cons (.asg (.n 2) (.call (Str.ofString "_law_bag") d_law_bag (.cons (.v 0) (.cons (.v 1) .nil))))
    (.cons (.asg (.n 3) (.call (Str.ofString "_law_near_day") d_law_near_day (.cons (.v 2) .nil)))
    (.cons (.asg (.n 4) (.ext fDictF (.cons (.v 3) .nil)))
    (.cons (.asg (.n 5) (.c (.int 0)))
    (.cons (.asg (.n 6) (.lst true (.cons (.c (.int 0)) .nil)))
    (.cons (.asg (.n 7) (.lst true (.cons (.c (.int 0)) .nil)))
    (.cons (.for (.n 8) (.it1 (.c (.int 120))) w_law_2)
    (.cons (.ifs (.cmp .ne c_law_2 (.sl false (.v 6) .nop (.c (.int 120)))) (.cons (.ret (.c (.bl false)))
    .nil) .nil)
    (.cons (.asg (.n 9) (.call (Str.ofString "_law_take") d_law_take (.cons (.v 2) (.cons (.c (.int 120)) .nil))))
    (.cons (.for (.n 10) (.it2 (.v 9) (.c (.int 120))) w_law_1)
    (.cons (.asg (.n 11) (.ext fSetA (.cons (.v 6) .nil)))
    (.cons (.for (.n 12) (.itv (.bin false .add (.bin false .add (.v 11) c_law_0) (.lst false (.cons (.call (Str.ofString "_law_take") d_law_take (.cons (.v 2) (.cons (.bin false .add (.ix (.v 6) (.neg (.c (.int 1)))) (.c (.int 1))) .nil))) .nil)))) w_law_0)
    .nil))))))))))))
noncomputable def b_law : St :=
  (.cons (.for (.n 1) (.it1 (.bin false .add (.c (.int 1)) (.prim false .min2 (.cons (.prim false .len (.cons (.v 0) .nil)) (.cons (.c (.int 8)) .nil))))) w_law_3)
    (.cons (.ret (.c (.bl true)))
    .nil))
noncomputable def d_law : Fn := mkFn false 1 16 b_law

theorem set_l3 {α : Type} (S : List α) (x y z a b : α) (T : List α) : (S ++ x :: y :: z :: a :: T).set (S.length + 3) b = S ++ x :: y :: z :: b :: T := by simp [List.set_append_right]
theorem get_l3 {α : Type} (S : List α) (x y z a : α) (T : List α) : (S ++ x :: y :: z :: a :: T)[S.length + 3]? = some a := by simp [List.getElem?_append_right]
def dk (x : Int × Int) : Key × AV := (.inl x.1, .int x.2)
theorem prs_day : ∀ rows : Rws, (rows.map pairA).mapM prOf = some (rows.map dk)
  | [] => rfl
  | x :: l => by rw [List.map_cons, List.mapM_cons, prs_day l]; rfl
theorem up_nodup {day : Rws} (u : Up 0 day) : ((day.map dk).map (·.1)).Nodup := by
  have h := (up_pw u).imp (fun {a b} (h : a < b) => Int.ne_of_lt h)
  have e : (day.map dk).map (·.1) = (day.map (·.1)).map (Sum.inl : Int → Key) := by simp [dk]
  rw [e]
  refine List.Pairwise.map _ (fun a b h => ?_) h
  intro q
  cases q
  exact h rfl
theorem dict_day {day : Rws} (S : Store) (u : Up 0 day) : dictFF (dayA day) S = .ok (.loc S.length) (S ++ [.dct false (day.map dk)]) := by
  have e : dictFF (dayA day) S = optD ((day.map pairA).mapM prOf) fun kvs => if (kvs.map (·.1)).Nodup then .ok (.loc S.length) (S ++ [.dct false kvs]) else .no := rfl
  rw [e, prs_day]
  exact if_pos (up_nodup u)
theorem look_day : ∀ (day : Rws) (h : Int), lookK (.inl h) (day.map dk) = (day.find? fun x => decide (x.1 = h)).map fun x => .int x.2
  | [], _ => rfl
  | x :: l, h => by
    by_cases q : x.1 = h
    · subst q
      simp [lookK, dk]
    · have := look_day l h
      unfold lookK at this ⊢
      rw [List.map_cons, List.find?_cons_of_neg (by simpa [dk] using q), List.find?_cons_of_neg (by simpa using q)]
      exact this
theorem look_next {day : Rws} (u : Up 0 day) {h : Int} (hh : 0 ≤ h) : (lookK (.inl h) (day.map dk)).getD (.int (F 0 day (h - 1))) = .int (F 0 day h) := by
  rw [look_day, F_next u hh]
  cases day.find? fun x => decide (x.1 = h) <;> rfl
theorem rg_at {n : Int} {k : Nat} {a : Int} (h : (rangeI n)[k]? = some a) : a = k := by
  unfold rangeI at h
  rw [List.getElem?_map] at h
  cases e : (List.range n.toNat)[k]? with
  | none => rw [e] at h; cases h
  | some j =>
    rw [e] at h
    cases h
    obtain ⟨hk, e⟩ := List.getElem?_eq_some_iff.1 e
    rw [List.getElem_range] at e
    rw [← e]
/-- what is counted: of each hour, up to one -/
def ctL (f : Int → Int) (k : Nat) : List AV := (List.range (k + 1)).map fun (j : Nat) => .int (f j)
theorem ct_succ (f : Int → Int) (k : Nat) : ctL f (k + 1) = ctL f k ++ [.int (f (k + 1))] := by
  unfold ctL
  rw [List.range_succ, List.map_append]
  rfl
theorem ct_len (f : Int → Int) (k : Nat) : (ctL f k).length = k + 1 := by simp [ctL]
theorem ct_last (f : Int → Int) (k : Nat) : atI (ctL f k) (-1) = some (.int (f k)) := by
  unfold ctL
  rw [List.range_succ, List.map_append]
  exact at_last
theorem ct_at (f : Int → Int) {k : Nat} {h : Int} (h0 : 0 ≤ h) (h1 : h ≤ k) : atI (ctL f k) h = some (.int (f h)) := by
  rw [atI_in h0 (by rw [ct_len]; omega)]
  simp only [ctL, List.getElem_map, List.getElem_range]
  rw [show ((h.toNat : Nat) : Int) = h by omega]
theorem ct_cut (f : Int → Int) : cutA (ctL f 120) none (some 120) = (rangeI 120).map fun h => .int (f h) := by
  rw [cutA_to (by decide)]
  unfold ctL rangeI
  rw [← List.map_take, List.map_map]
  rfl
def ctI (f : Int → Int) (k : Nat) : List Int := (List.range (k + 1)).map fun (j : Nat) => f j
theorem ct_av (f : Int → Int) (k : Nat) : ctL f k = (ctI f k).map .int := by
  unfold ctL ctI
  rw [List.map_map]
  rfl
theorem wp_hour_0 {day : Rws} {r : Int} {S : Store} {Q : AV → Store → Prop} (N : Nr day) (h0 : 0 ≤ r) (q : ∀ o, Least day r o → Q (oI o) S) : wp (d_hour_at [dayA day, .int r] S) Q := by
  by_cases h : r = 0
  · subst h
    refine wp_fn rfl ?_
    unfold b_hour_at
    with_reducible refine ws_cons fun M hM => ?_
    try simp [-Prod.forall, -Prod.exists, -Bool.exists_bool, -Bool.forall_bool, -getElem?_pos, At, List.getElem?_cons_zero, List.getElem?_cons_succ, get_l0, get_l1, get_l2, set_l0, set_l1, set_l2]
    refine .pure rfl (q (some 0) ⟨Int.le_refl _, (N.run_bd (Int.le_refl _)).1, fun g g0 g1 => by omega⟩)
  · exact wp_hour_at N.d (by omega) q
/-- one run, sought -/
theorem q_locI {S : Store} {i : Nat} {ns : List Int} {f : List Int → Out AV} (h : S[i]? = some (.lst (ns.map .int))) : intsQ S (.loc i) f = f ns := by
  unfold intsQ intsD
  simp [lstOf, h]
theorem ded_len : ∀ l : List Int, (dedI l).length ≤ l.length
  | [] => Nat.le_refl _
  | z :: l => by
    have := ded_len l
    unfold dedI
    split <;> simp only [List.length_cons] <;> omega
theorem e_nn (S : Store) : eqD S (.lst []) (.lst []) = some true := by
  have := e_ints (S := S) (a := .lst []) (b := .lst []) (xs := []) (ys := []) rfl rfl
  simpa using this
theorem e_cn (S : Store) (x : Int) (l : List Int) : eqD S (.lst (.int x :: l.map .int)) (.lst []) = some false := by
  have := e_ints (S := S) (a := .lst ((x :: l).map .int)) (b := .lst []) (xs := x :: l) (ys := []) rfl rfl
  simpa using this
theorem e_fF (S : Store) (xs : List Int) (f : Int → Int) : eqD S (.lst (xs.map fun h => .int (f h))) (.lst (xs.map fun h => .int (f h))) = some true := by
  have e : xs.map (fun h => AV.int (f h)) = (xs.map f).map .int := by rw [List.map_map]; rfl
  rw [e, e_ints (xs := xs.map f) (ys := xs.map f) rfl rfl]
  simp
theorem one_run {day : Rws} {ns : List Int} {S : Store} {r : Int} {rs : Nat} {M C : Ev → Store → Prop} {R : AV → Store → Prop} {B : Ev → Store → Prop} {ρ : Ev} (N : Nr day) (hl : ρ.length = 16) (h0 : 0 ≤ r) (h1 : r ≤ 1000000)
    (a0 : At ρ 0 (.scr ns)) (a3 : At ρ 3 (dayA day)) (a5 : At ρ 5 (.int (F 0 day 119))) (a6 : At ρ 6 (.loc rs)) (a12 : At ρ 12 (.int r)) (hs : S[rs]? = some (.lst (ctL (run day) 120)))
    (hM : ∀ ρ', ρ'.length = 16 → At ρ' 0 (.scr ns) → At ρ' 3 (dayA day) → At ρ' 5 (.int (F 0 day 119)) → At ρ' 6 (.loc rs) → M ρ' S) : ws (denS w_law_0 ρ S) M R C B := by
  unfold w_law_0
  with_reducible refine ws_cons fun M1 hM1 => ?_
  try simp [-Prod.forall, -Prod.exists, -Bool.exists_bool, -Bool.forall_bool, -getElem?_pos, At, List.getElem?_cons_zero, List.getElem?_cons_succ, get_l0, get_l1, get_l2, set_l0, set_l1, set_l2, c_law_1, E.isNop, hl]
  rw [show (List.range 121).map (fun (k : Nat) => AV.int k) = (rangeI 121).map AV.int from rangeI_av 121]
  rw [comp_pure AV.int (fun h => decide (r ≤ run day h)) AV.int (by simp) (rangeI 121) (sizeL (by rw [len_rangeI]; decide)) ?_]
  rotate_left
  · intro h hh
    have hh := mem_rangeI.1 hh
    refine ⟨_, tg_n _ _ _, ?_⟩
    try simp [-Prod.forall, -Prod.exists, -Bool.exists_bool, -Bool.forall_bool, -getElem?_pos, At, List.getElem?_cons_zero, List.getElem?_cons_succ, get_l0, get_l1, get_l2, set_l0, set_l1, set_l2, a6, a12, hl, hs, ct_at (run day) hh.1 (show h ≤ (120 : Nat) by omega)]
  try simp [-Prod.forall, -Prod.exists, -Bool.exists_bool, -Bool.forall_bool, -getElem?_pos, At, List.getElem?_cons_zero, List.getElem?_cons_succ, get_l0, get_l1, get_l2, set_l0, set_l1, set_l2]
  rw [show (rangeI 121).filter (fun h => decide (r ≤ run day h)) = dueH day r from rfl]
  refine hM1 _ _ ?_
  with_reducible refine ws_cons fun M1 hM1 => ?_
  try simp [-Prod.forall, -Prod.exists, -Bool.exists_bool, -Bool.forall_bool, -getElem?_pos, At, List.getElem?_cons_zero, List.getElem?_cons_succ, get_l0, get_l1, get_l2, set_l0, set_l1, set_l2, hl, a3, a12]
  refine wp_hour_0 N h0 fun o ho => ?_
  try simp [-Prod.forall, -Prod.exists, -Bool.exists_bool, -Bool.forall_bool, -getElem?_pos, At, List.getElem?_cons_zero, List.getElem?_cons_succ, get_l0, get_l1, get_l2, set_l0, set_l1, set_l2]
  refine hM1 _ _ ?_
  with_reducible refine ws_seq (fun ρ' S' => S' = S ∧ ρ' = (ρ.set 13 (some (.lst ((dueH day r).map .int)))).set 14 (some (oI o))) ?_ ?_
  · intro M1 hM1
    cases hd : dueH day r with
    | nil =>
      have e := N.nil h0 ho (due_nil hd)
      cases o with
      | none =>
        have e := e.1 rfl
        try simp [-Prod.forall, -Prod.exists, -Bool.exists_bool, -Bool.forall_bool, -getElem?_pos, At, List.getElem?_cons_zero, List.getElem?_cons_succ, get_l0, get_l1, get_l2, set_l0, set_l1, set_l2, hl, oI, a5, e, e_nn]
        exact hM1 _ _ ⟨rfl, by rw [hd]; rfl⟩
      | some g =>
        have e : F 0 day 119 ≠ 0 := fun q => by have := e.2 q; cases this
        try simp [-Prod.forall, -Prod.exists, -Bool.exists_bool, -Bool.forall_bool, -getElem?_pos, At, List.getElem?_cons_zero, List.getElem?_cons_succ, get_l0, get_l1, get_l2, set_l0, set_l1, set_l2, hl, oI, a5, e, e_nn]
        exact hM1 _ _ ⟨rfl, by rw [hd]; rfl⟩
    | cons x l =>
      have e := least_one ho (due_cons hd)
      subst e
      try simp [-Prod.forall, -Prod.exists, -Bool.exists_bool, -Bool.forall_bool, -getElem?_pos, At, List.getElem?_cons_zero, List.getElem?_cons_succ, get_l0, get_l1, get_l2, set_l0, set_l1, set_l2, hl, oI, a5, e_cn]
      exact hM1 _ _ ⟨rfl, by rw [hd]; rfl⟩
  · rintro ρ' S' ⟨rfl, rfl⟩
    cases o with
    | none =>
      try simp [-Prod.forall, -Prod.exists, -Bool.exists_bool, -Bool.forall_bool, -getElem?_pos, At, List.getElem?_cons_zero, List.getElem?_cons_succ, get_l0, get_l1, get_l2, set_l0, set_l1, set_l2, hl, oI]
      exact hM _ (by simp [hl]) (by try simp [-Prod.forall, -Prod.exists, -Bool.exists_bool, -Bool.forall_bool, -getElem?_pos, At, List.getElem?_cons_zero, List.getElem?_cons_succ, get_l0, get_l1, get_l2, set_l0, set_l1, set_l2, a0]) (by try simp [-Prod.forall, -Prod.exists, -Bool.exists_bool, -Bool.forall_bool, -getElem?_pos, At, List.getElem?_cons_zero, List.getElem?_cons_succ, get_l0, get_l1, get_l2, set_l0, set_l1, set_l2, a3]) (by try simp [-Prod.forall, -Prod.exists, -Bool.exists_bool, -Bool.forall_bool, -getElem?_pos, At, List.getElem?_cons_zero, List.getElem?_cons_succ, get_l0, get_l1, get_l2, set_l0, set_l1, set_l2, a5]) (by try simp [-Prod.forall, -Prod.exists, -Bool.exists_bool, -Bool.forall_bool, -getElem?_pos, At, List.getElem?_cons_zero, List.getElem?_cons_succ, get_l0, get_l1, get_l2, set_l0, set_l1, set_l2, a6])
    | some g =>
      have bd := N.bd h0 ho
      try simp [-Prod.forall, -Prod.exists, -Bool.exists_bool, -Bool.forall_bool, -getElem?_pos, At, List.getElem?_cons_zero, List.getElem?_cons_succ, get_l0, get_l1, get_l2, set_l0, set_l1, set_l2, hl, oI, a3, a12, x_run_at _ N.d bd.1 (show g ≤ big by unfold big; omega)]
      have fin : M ((ρ.set 13 (some (.lst ((dueH day r).map .int)))).set 14 (some (.int g))) S' := hM _ (by simp [hl]) (by try simp [-Prod.forall, -Prod.exists, -Bool.exists_bool, -Bool.forall_bool, -getElem?_pos, At, List.getElem?_cons_zero, List.getElem?_cons_succ, get_l0, get_l1, get_l2, set_l0, set_l1, set_l2, a0]) (by try simp [-Prod.forall, -Prod.exists, -Bool.exists_bool, -Bool.forall_bool, -getElem?_pos, At, List.getElem?_cons_zero, List.getElem?_cons_succ, get_l0, get_l1, get_l2, set_l0, set_l1, set_l2, a3]) (by try simp [-Prod.forall, -Prod.exists, -Bool.exists_bool, -Bool.forall_bool, -getElem?_pos, At, List.getElem?_cons_zero, List.getElem?_cons_succ, get_l0, get_l1, get_l2, set_l0, set_l1, set_l2, a5]) (by try simp [-Prod.forall, -Prod.exists, -Bool.exists_bool, -Bool.forall_bool, -getElem?_pos, At, List.getElem?_cons_zero, List.getElem?_cons_succ, get_l0, get_l1, get_l2, set_l0, set_l1, set_l2, a6])
      refine ⟨fun q => by have := ho.2.1; omega, fun _ => ⟨fun hg => ?_, fun _ => ?_⟩⟩
      · try simp [-Prod.forall, -Prod.exists, -Bool.exists_bool, -Bool.forall_bool, -getElem?_pos, At, List.getElem?_cons_zero, List.getElem?_cons_succ, get_l0, get_l1, get_l2, set_l0, set_l1, set_l2, x_run_at _ N.d (show 0 ≤ g - 1 by omega) (show g - 1 ≤ big by unfold big; omega)]
        have := ho.2.2 (g - 1) (by omega) (by omega)
        exact ⟨fun q => by omega, fun _ => fin⟩
      · exact ⟨fun q => by omega, fun _ => fin⟩
theorem k_one (ns : List Int) : LawOne ns 16 w_law_3 := by
  intro k ρ S M N R hk hl h0 h1 hM
  unfold w_law_3
  with_reducible refine ws_cons fun M1 hM1 => ?_
  try simp [-Prod.forall, -Prod.exists, -Bool.exists_bool, -Bool.forall_bool, -getElem?_pos, At, List.getElem?_cons_zero, List.getElem?_cons_succ, get_l0, get_l1, get_l2, set_l0, set_l1, set_l2, h0, h1]
  refine wp_bg (by omega) (by omega) fun b => ?_
  try simp [-Prod.forall, -Prod.exists, -Bool.exists_bool, -Bool.forall_bool, -getElem?_pos, At, List.getElem?_cons_zero, List.getElem?_cons_succ, get_l0, get_l1, get_l2, set_l0, set_l1, set_l2]
  refine hM1 _ _ ?_
  with_reducible refine ws_cons fun M1 hM1 => ?_
  try simp [-Prod.forall, -Prod.exists, -Bool.exists_bool, -Bool.forall_bool, -getElem?_pos, At, List.getElem?_cons_zero, List.getElem?_cons_succ, get_l0, get_l1, get_l2, set_l0, set_l1, set_l2, hl]
  refine wp_near (b := b) (by simp) fun day b hC hp hrl h100 => ?_
  try simp [-Prod.forall, -Prod.exists, -Bool.exists_bool, -Bool.forall_bool, -getElem?_pos, At, List.getElem?_cons_zero, List.getElem?_cons_succ, get_l0, get_l1, get_l2, set_l0, set_l1, set_l2]
  refine hM1 _ _ ?_
  have ND : Nr day := ⟨hC, hp, hrl, h100⟩
  have u := hC.up
  with_reducible refine ws_cons fun M1 hM1 => ?_
  try simp [-Prod.forall, -Prod.exists, -Bool.exists_bool, -Bool.forall_bool, -getElem?_pos, At, List.getElem?_cons_zero, List.getElem?_cons_succ, get_l0, get_l1, get_l2, set_l0, set_l1, set_l2, hl, fDictF, f1, dict_day _ u]
  refine hM1 _ _ ?_
  with_reducible refine ws_cons fun M1 hM1 => ?_
  try simp [-Prod.forall, -Prod.exists, -Bool.exists_bool, -Bool.forall_bool, -getElem?_pos, At, List.getElem?_cons_zero, List.getElem?_cons_succ, get_l0, get_l1, get_l2, set_l0, set_l1, set_l2, hl]
  refine hM1 _ _ ?_
  with_reducible refine ws_cons fun M1 hM1 => ?_
  try simp [-Prod.forall, -Prod.exists, -Bool.exists_bool, -Bool.forall_bool, -getElem?_pos, At, List.getElem?_cons_zero, List.getElem?_cons_succ, get_l0, get_l1, get_l2, set_l0, set_l1, set_l2, hl]
  refine ⟨hz (by decide), hM1 _ _ ?_⟩
  with_reducible refine ws_cons fun M1 hM1 => ?_
  try simp [-Prod.forall, -Prod.exists, -Bool.exists_bool, -Bool.forall_bool, -getElem?_pos, At, List.getElem?_cons_zero, List.getElem?_cons_succ, get_l0, get_l1, get_l2, set_l0, set_l1, set_l2, hl]
  refine ⟨hz (by decide), hM1 _ _ ?_⟩
  have e5 : F 0 day (-1) = 0 := F_low fun x hx => by have := u.all x hx; omega
  have e6 : ctL (run day) 0 = [.int 0] := by
    have : ctL (run day) 0 = [.int (run day 0)] := rfl
    rw [this, run_low u (Int.le_refl _)]
  have e7 : ctL (still day 0) 0 = [.int 0] := by
    have : ctL (still day 0) 0 = [.int (still day 0 0)] := rfl
    rw [this, still_0 u]
  with_reducible refine ws_seq (fun ρ' S' => S' = S ++ [b.o, .dct false (day.map dk), .lst (ctL (run day) 120), .lst (ctL (still day 0) 120)] ∧ ρ'.length = 16 ∧ At ρ' 0 (.scr ns) ∧ At ρ' 2 (.loc S.length) ∧ At ρ' 3 (dayA day) ∧ At ρ' 5 (.int (F 0 day 119)) ∧ At ρ' 6 (.loc (S.length + 2)) ∧ At ρ' 7 (.loc (S.length + 3))) ?_ ?_
  · intro M1 hM1
    try simp [-Prod.forall, -Prod.exists, -Bool.exists_bool, -Bool.forall_bool, -getElem?_pos, At, List.getElem?_cons_zero, List.getElem?_cons_succ, get_l0, get_l1, get_l2, set_l0, set_l1, set_l2]
    rw [show (List.range 120).map (fun (k : Nat) => AV.int k) = (rangeI 120).map AV.int from rangeI_av 120]
    refine wp_forM AV.int (rangeI 120) (fun k ρ' S' => S' = S ++ [b.o, .dct false (day.map dk), .lst (ctL (run day) k), .lst (ctL (still day 0) k)] ∧ ρ'.length = 16 ∧ At ρ' 0 (.scr ns) ∧ At ρ' 2 (.loc S.length) ∧ At ρ' 3 (dayA day) ∧ At ρ' 4 (.loc (S.length + 1)) ∧ At ρ' 5 (.int (F 0 day ((k : Int) - 1))) ∧ At ρ' 6 (.loc (S.length + 2)) ∧ At ρ' 7 (.loc (S.length + 3))) ⟨by rw [e6, e7], by simp [hl], by try simp [-Prod.forall, -Prod.exists, -Bool.exists_bool, -Bool.forall_bool, -getElem?_pos, At, List.getElem?_cons_zero, List.getElem?_cons_succ, get_l0, get_l1, get_l2, set_l0, set_l1, set_l2, h0], by try simp [-Prod.forall, -Prod.exists, -Bool.exists_bool, -Bool.forall_bool, -getElem?_pos, At, List.getElem?_cons_zero, List.getElem?_cons_succ, get_l0, get_l1, get_l2, set_l0, set_l1, set_l2, hl], by try simp [-Prod.forall, -Prod.exists, -Bool.exists_bool, -Bool.forall_bool, -getElem?_pos, At, List.getElem?_cons_zero, List.getElem?_cons_succ, get_l0, get_l1, get_l2, set_l0, set_l1, set_l2, hl], by try simp [-Prod.forall, -Prod.exists, -Bool.exists_bool, -Bool.forall_bool, -getElem?_pos, At, List.getElem?_cons_zero, List.getElem?_cons_succ, get_l0, get_l1, get_l2, set_l0, set_l1, set_l2, hl], by try simp [-Prod.forall, -Prod.exists, -Bool.exists_bool, -Bool.forall_bool, -getElem?_pos, At, List.getElem?_cons_zero, List.getElem?_cons_succ, get_l0, get_l1, get_l2, set_l0, set_l1, set_l2, hl, e5], by try simp [-Prod.forall, -Prod.exists, -Bool.exists_bool, -Bool.forall_bool, -getElem?_pos, At, List.getElem?_cons_zero, List.getElem?_cons_succ, get_l0, get_l1, get_l2, set_l0, set_l1, set_l2, hl], by try simp [-Prod.forall, -Prod.exists, -Bool.exists_bool, -Bool.forall_bool, -getElem?_pos, At, List.getElem?_cons_zero, List.getElem?_cons_succ, get_l0, get_l1, get_l2, set_l0, set_l1, set_l2, hl]⟩ (fun _ _ _ _ => by simp) ?_ ?_
    · clear h0 h1 hl e5 e6 e7
      rintro k a ρ' S' ha ⟨rfl, hl, a0, a2, a3, a4, a5, a6, a7⟩ M2 hM2
      have ea := rg_at ha
      subst ea
      have hk := lt_of_get ha
      rw [len_rangeI] at hk
      refine ⟨_, tg_n _ _ _, ?_⟩
      unfold w_law_2
      with_reducible refine ws_cons fun M3 hM3 => ?_
      try simp [-Prod.forall, -Prod.exists, -Bool.exists_bool, -Bool.forall_bool, -getElem?_pos, At, List.getElem?_cons_zero, List.getElem?_cons_succ, get_l0, get_l1, get_l2, set_l0, set_l1, set_l2, hl, a4, a5, fGet2, isDD, getDD, keyOf, look_next u (Int.natCast_nonneg k)]
      refine hM3 _ _ ?_
      with_reducible refine ws_cons fun M3 hM3 => ?_
      try simp [-Prod.forall, -Prod.exists, -Bool.exists_bool, -Bool.forall_bool, -getElem?_pos, At, List.getElem?_cons_zero, List.getElem?_cons_succ, get_l0, get_l1, get_l2, set_l0, set_l1, set_l2, hl, a6, ct_last]
      refine ⟨hzl (by rw [ct_len]; omega), hM3 _ _ ?_⟩
      try simp [-Prod.forall, -Prod.exists, -Bool.exists_bool, -Bool.forall_bool, -getElem?_pos, At, List.getElem?_cons_zero, List.getElem?_cons_succ, get_l0, get_l1, get_l2, set_l0, set_l1, set_l2, hl, a5, a7, ct_last, get_l3, set_l3]
      refine ⟨hzl (by rw [ct_len]; omega), hM2 _ _ ⟨?_, by simp [hl], by try simp [-Prod.forall, -Prod.exists, -Bool.exists_bool, -Bool.forall_bool, -getElem?_pos, At, List.getElem?_cons_zero, List.getElem?_cons_succ, get_l0, get_l1, get_l2, set_l0, set_l1, set_l2, a0], by try simp [-Prod.forall, -Prod.exists, -Bool.exists_bool, -Bool.forall_bool, -getElem?_pos, At, List.getElem?_cons_zero, List.getElem?_cons_succ, get_l0, get_l1, get_l2, set_l0, set_l1, set_l2, a2], by try simp [-Prod.forall, -Prod.exists, -Bool.exists_bool, -Bool.forall_bool, -getElem?_pos, At, List.getElem?_cons_zero, List.getElem?_cons_succ, get_l0, get_l1, get_l2, set_l0, set_l1, set_l2, a3], by try simp [-Prod.forall, -Prod.exists, -Bool.exists_bool, -Bool.forall_bool, -getElem?_pos, At, List.getElem?_cons_zero, List.getElem?_cons_succ, get_l0, get_l1, get_l2, set_l0, set_l1, set_l2, a4], by try simp [-Prod.forall, -Prod.exists, -Bool.exists_bool, -Bool.forall_bool, -getElem?_pos, At, List.getElem?_cons_zero, List.getElem?_cons_succ, get_l0, get_l1, get_l2, set_l0, set_l1, set_l2, hl], by try simp [-Prod.forall, -Prod.exists, -Bool.exists_bool, -Bool.forall_bool, -getElem?_pos, At, List.getElem?_cons_zero, List.getElem?_cons_succ, get_l0, get_l1, get_l2, set_l0, set_l1, set_l2, a6], by try simp [-Prod.forall, -Prod.exists, -Bool.exists_bool, -Bool.forall_bool, -getElem?_pos, At, List.getElem?_cons_zero, List.getElem?_cons_succ, get_l0, get_l1, get_l2, set_l0, set_l1, set_l2, a7]⟩⟩
      rw [ct_succ, ct_succ, run_succ u (Int.natCast_nonneg k), still_succ u (Int.le_refl _) (Int.natCast_nonneg k)]
      rfl
    · rintro ρ' S' ⟨rfl, hl, a0, a2, a3, a4, a5, a6, a7⟩
      have e : (rangeI 120).length = 120 := by rw [len_rangeI]; rfl
      rw [e] at a5 ⊢
      exact hM1 _ _ ⟨rfl, hl, a0, a2, a3, a5, a6, a7⟩
  clear h0 hl
  rintro ρ S' ⟨rfl, hl, a0, a2, a3, a5, a6, a7⟩
  with_reducible refine ws_cons fun M1 hM1 => ?_
  try simp [-Prod.forall, -Prod.exists, -Bool.exists_bool, -Bool.forall_bool, -getElem?_pos, At, List.getElem?_cons_zero, List.getElem?_cons_succ, get_l0, get_l1, get_l2, set_l0, set_l1, set_l2, c_law_2, E.isNop, hl]
  rw [show (List.range 120).map (fun (k : Nat) => AV.int k) = (rangeI 120).map AV.int from rangeI_av 120]
  rw [comp_pure AV.int (fun _ => true) (fun h => .int (run day h)) (by simp) (rangeI 120) (sizeL (by rw [len_rangeI]; decide)) ?_, List.filter_eq_self.2 (by simp)]
  rotate_left
  · intro h hh
    have hh := mem_rangeI.1 hh
    refine ⟨_, tg_n _ _ _, ?_⟩
    try simp [-Prod.forall, -Prod.exists, -Bool.exists_bool, -Bool.forall_bool, -getElem?_pos, At, List.getElem?_cons_zero, List.getElem?_cons_succ, get_l0, get_l1, get_l2, set_l0, set_l1, set_l2, hl, a3, x_run_at _ ND.d hh.1 (show h ≤ big by unfold big; omega)]
  try simp [-Prod.forall, -Prod.exists, -Bool.exists_bool, -Bool.forall_bool, -getElem?_pos, At, List.getElem?_cons_zero, List.getElem?_cons_succ, get_l0, get_l1, get_l2, set_l0, set_l1, set_l2, hl, a6, slD, partD, cutD, ct_cut, e_fF]
  refine hM1 _ _ ?_
  with_reducible refine ws_seq (fun ρ' S' => ∃ (b : Bag) (f : Int), 0 ≤ f ∧ f < 120 ∧ S' = S ++ [b.o, .dct false (day.map dk), .lst (ctL (run day) 120), .lst (ctL (still day 0) 120)] ∧ ρ'.length = 16 ∧ At ρ' 0 (.scr ns) ∧ At ρ' 2 (.loc S.length) ∧ At ρ' 3 (dayA day) ∧ At ρ' 5 (.int (F 0 day 119)) ∧ At ρ' 6 (.loc (S.length + 2)) ∧ At ρ' 7 (.loc (S.length + 3)) ∧ At ρ' 9 (.int f)) ?_ ?_
  · intro M1 hM1
    try simp [-Prod.forall, -Prod.exists, -Bool.exists_bool, -Bool.forall_bool, -getElem?_pos, At, List.getElem?_cons_zero, List.getElem?_cons_succ, get_l0, get_l1, get_l2, set_l0, set_l1, set_l2, a2]
    refine wp_tk (b := b) (by simp []) (by first | decide | omega) (by first | decide | omega) ?_
    intro f b1 f0 f1
    try simp [-Prod.forall, -Prod.exists, -Bool.exists_bool, -Bool.forall_bool, -getElem?_pos, At, List.getElem?_cons_zero, List.getElem?_cons_succ, get_l0, get_l1, get_l2, set_l0, set_l1, set_l2]
    exact hM1 _ _ ⟨b1, f, f0, f1, rfl, by simp [hl], by try simp [-Prod.forall, -Prod.exists, -Bool.exists_bool, -Bool.forall_bool, -getElem?_pos, At, List.getElem?_cons_zero, List.getElem?_cons_succ, get_l0, get_l1, get_l2, set_l0, set_l1, set_l2, a0], by try simp [-Prod.forall, -Prod.exists, -Bool.exists_bool, -Bool.forall_bool, -getElem?_pos, At, List.getElem?_cons_zero, List.getElem?_cons_succ, get_l0, get_l1, get_l2, set_l0, set_l1, set_l2, a2], by try simp [-Prod.forall, -Prod.exists, -Bool.exists_bool, -Bool.forall_bool, -getElem?_pos, At, List.getElem?_cons_zero, List.getElem?_cons_succ, get_l0, get_l1, get_l2, set_l0, set_l1, set_l2, a3], by try simp [-Prod.forall, -Prod.exists, -Bool.exists_bool, -Bool.forall_bool, -getElem?_pos, At, List.getElem?_cons_zero, List.getElem?_cons_succ, get_l0, get_l1, get_l2, set_l0, set_l1, set_l2, a5], by try simp [-Prod.forall, -Prod.exists, -Bool.exists_bool, -Bool.forall_bool, -getElem?_pos, At, List.getElem?_cons_zero, List.getElem?_cons_succ, get_l0, get_l1, get_l2, set_l0, set_l1, set_l2, a6], by try simp [-Prod.forall, -Prod.exists, -Bool.exists_bool, -Bool.forall_bool, -getElem?_pos, At, List.getElem?_cons_zero, List.getElem?_cons_succ, get_l0, get_l1, get_l2, set_l0, set_l1, set_l2, a7], by try simp [-Prod.forall, -Prod.exists, -Bool.exists_bool, -Bool.forall_bool, -getElem?_pos, At, List.getElem?_cons_zero, List.getElem?_cons_succ, get_l0, get_l1, get_l2, set_l0, set_l1, set_l2, hl]⟩
  clear a0 a2 a3 a5 a6 a7 hl
  rintro ρ S' ⟨b, f, f0, f1, rfl, hl, a0, a2, a3, a5, a6, a7, a9⟩
  have len1 := ct_len (run day) 120
  with_reducible refine ws_seq (fun ρ' S' => S' = S ++ [b.o, .dct false (day.map dk), .lst (ctL (run day) 120), .lst (ctL (still day 0) 120)] ∧ ρ'.length = 16 ∧ At ρ' 0 (.scr ns) ∧ At ρ' 2 (.loc S.length) ∧ At ρ' 3 (dayA day) ∧ At ρ' 5 (.int (F 0 day 119)) ∧ At ρ' 6 (.loc (S.length + 2))) ?_ ?_
  · intro M1 hM1
    try simp [-Prod.forall, -Prod.exists, -Bool.exists_bool, -Bool.forall_bool, -getElem?_pos, At, List.getElem?_cons_zero, List.getElem?_cons_succ, get_l0, get_l1, get_l2, set_l0, set_l1, set_l2, a9]
    refine ⟨by omega, ?_⟩
    refine wp_forE (fun (k : Nat) => AV.int (f + k)) (List.range (120 - f).toNat) (fun ρ' S' => S' = S ++ [b.o, .dct false (day.map dk), .lst (ctL (run day) 120), .lst (ctL (still day 0) 120)] ∧ ρ'.length = 16 ∧ At ρ' 0 (.scr ns) ∧ At ρ' 2 (.loc S.length) ∧ At ρ' 3 (dayA day) ∧ At ρ' 5 (.int (F 0 day 119)) ∧ At ρ' 6 (.loc (S.length + 2)) ∧ At ρ' 7 (.loc (S.length + 3)) ∧ At ρ' 9 (.int f)) ⟨rfl, hl, a0, a2, a3, a5, a6, a7, a9⟩ (fun _ _ _ => by simp) ?_ (fun ρ' S' h => hM1 _ _ ⟨h.1, h.2.1, h.2.2.1, h.2.2.2.1, h.2.2.2.2.1, h.2.2.2.2.2.1, h.2.2.2.2.2.2.1⟩)
    clear a0 a2 a3 a5 a6 a7 a9 hl
    rintro k ρ S' hk ⟨rfl, hl, a0, a2, a3, a5, a6, a7, a9⟩ M2 hM2
    have hk := List.mem_range.1 hk
    have st := still_part u f0 (show f ≤ f + (k : Int) by omega)
    refine ⟨_, tg_n _ _ _, ?_⟩
    try simp [-Prod.forall, -Prod.exists, -Bool.exists_bool, -Bool.forall_bool, -getElem?_pos, At, List.getElem?_cons_zero, List.getElem?_cons_succ, get_l0, get_l1, get_l2, set_l0, set_l1, set_l2, w_law_1, hl, a3, a7, a9, get_l3, x_still _ ND.d, ct_at (still day 0) f0 (show f ≤ (120 : Nat) by omega), ct_at (still day 0) (show 0 ≤ f + (k : Int) by omega) (show f + (k : Int) ≤ (120 : Nat) by omega), st]
    exact hM2 _ _ ⟨rfl, by simp [hl], by try simp [-Prod.forall, -Prod.exists, -Bool.exists_bool, -Bool.forall_bool, -getElem?_pos, At, List.getElem?_cons_zero, List.getElem?_cons_succ, get_l0, get_l1, get_l2, set_l0, set_l1, set_l2, a0], by try simp [-Prod.forall, -Prod.exists, -Bool.exists_bool, -Bool.forall_bool, -getElem?_pos, At, List.getElem?_cons_zero, List.getElem?_cons_succ, get_l0, get_l1, get_l2, set_l0, set_l1, set_l2, a2], by try simp [-Prod.forall, -Prod.exists, -Bool.exists_bool, -Bool.forall_bool, -getElem?_pos, At, List.getElem?_cons_zero, List.getElem?_cons_succ, get_l0, get_l1, get_l2, set_l0, set_l1, set_l2, a3], by try simp [-Prod.forall, -Prod.exists, -Bool.exists_bool, -Bool.forall_bool, -getElem?_pos, At, List.getElem?_cons_zero, List.getElem?_cons_succ, get_l0, get_l1, get_l2, set_l0, set_l1, set_l2, a5], by try simp [-Prod.forall, -Prod.exists, -Bool.exists_bool, -Bool.forall_bool, -getElem?_pos, At, List.getElem?_cons_zero, List.getElem?_cons_succ, get_l0, get_l1, get_l2, set_l0, set_l1, set_l2, a6], by try simp [-Prod.forall, -Prod.exists, -Bool.exists_bool, -Bool.forall_bool, -getElem?_pos, At, List.getElem?_cons_zero, List.getElem?_cons_succ, get_l0, get_l1, get_l2, set_l0, set_l1, set_l2, a7], by try simp [-Prod.forall, -Prod.exists, -Bool.exists_bool, -Bool.forall_bool, -getElem?_pos, At, List.getElem?_cons_zero, List.getElem?_cons_succ, get_l0, get_l1, get_l2, set_l0, set_l1, set_l2, a9]⟩
  clear a0 a2 a3 a5 a6 a7 a9 hl
  rintro ρ S' ⟨rfl, hl, a0, a2, a3, a5, a6⟩
  with_reducible refine ws_seq (fun ρ' S' => S' = S ++ [b.o, .dct false (day.map dk), .lst (ctL (run day) 120), .lst (ctL (still day 0) 120)] ∧ ρ'.length = 16 ∧ At ρ' 0 (.scr ns) ∧ At ρ' 2 (.loc S.length) ∧ At ρ' 3 (dayA day) ∧ At ρ' 5 (.int (F 0 day 119)) ∧ At ρ' 6 (.loc (S.length + 2)) ∧ At ρ' 11 (.lst ((riseI (ctI (run day) 120)).map .int))) ?_ ?_
  · intro M1 hM1
    try simp [-Prod.forall, -Prod.exists, -Bool.exists_bool, -Bool.forall_bool, -getElem?_pos, At, List.getElem?_cons_zero, List.getElem?_cons_succ, get_l0, get_l1, get_l2, set_l0, set_l1, set_l2, a6, fSetA]
    rw [q_locI (ns := ctI (run day) 120) (by rw [get_l2, ct_av])]
    have e : (ctI (run day) 120).length = 121 := by simp [ctI]
    try simp [-Prod.forall, -Prod.exists, -Bool.exists_bool, -Bool.forall_bool, -getElem?_pos, At, List.getElem?_cons_zero, List.getElem?_cons_succ, get_l0, get_l1, get_l2, set_l0, set_l1, set_l2, e]
    exact hM1 _ _ ⟨rfl, by simp [hl], by try simp [-Prod.forall, -Prod.exists, -Bool.exists_bool, -Bool.forall_bool, -getElem?_pos, At, List.getElem?_cons_zero, List.getElem?_cons_succ, get_l0, get_l1, get_l2, set_l0, set_l1, set_l2, a0], by try simp [-Prod.forall, -Prod.exists, -Bool.exists_bool, -Bool.forall_bool, -getElem?_pos, At, List.getElem?_cons_zero, List.getElem?_cons_succ, get_l0, get_l1, get_l2, set_l0, set_l1, set_l2, a2], by try simp [-Prod.forall, -Prod.exists, -Bool.exists_bool, -Bool.forall_bool, -getElem?_pos, At, List.getElem?_cons_zero, List.getElem?_cons_succ, get_l0, get_l1, get_l2, set_l0, set_l1, set_l2, a3], by try simp [-Prod.forall, -Prod.exists, -Bool.exists_bool, -Bool.forall_bool, -getElem?_pos, At, List.getElem?_cons_zero, List.getElem?_cons_succ, get_l0, get_l1, get_l2, set_l0, set_l1, set_l2, a5], by try simp [-Prod.forall, -Prod.exists, -Bool.exists_bool, -Bool.forall_bool, -getElem?_pos, At, List.getElem?_cons_zero, List.getElem?_cons_succ, get_l0, get_l1, get_l2, set_l0, set_l1, set_l2, a6], by try simp [-Prod.forall, -Prod.exists, -Bool.exists_bool, -Bool.forall_bool, -getElem?_pos, At, List.getElem?_cons_zero, List.getElem?_cons_succ, get_l0, get_l1, get_l2, set_l0, set_l1, set_l2, hl]⟩
  clear a0 a2 a3 a5 a6 hl
  rintro ρ S' ⟨rfl, hl, a0, a2, a3, a5, a6, a11⟩
  have bd0 := fun (j : Int) (h : 0 ≤ j) (h2 : j ≤ 120) => ND.run_bd h
  have hrs : (ctI (run day) 120).length = 121 := by simp [ctI]
  have rlen : (riseI (ctI (run day) 120)).length ≤ 121 := by
    have := ded_len (ctI (run day) 120)
    rw [riseI, len_sortI]
    omega
  have rbd : ∀ x ∈ riseI (ctI (run day) 120), 0 ≤ x ∧ x ≤ 120000 := fun x hx => by
    have := mem_riseI.1 hx
    unfold ctI at this
    obtain ⟨j, hj, rfl⟩ := List.mem_map.1 this
    have hj := List.mem_range.1 hj
    have := ND.run_bd (h := j) (by omega)
    omega
  generalize riseI (ctI (run day) 120) = rs at *
  try simp [-Prod.forall, -Prod.exists, -Bool.exists_bool, -Bool.forall_bool, -getElem?_pos, At, List.getElem?_cons_zero, List.getElem?_cons_succ, get_l0, get_l1, get_l2, set_l0, set_l1, set_l2, c_law_0, E.isNop, hl, a11]
  rw [comp_i (fun x => .int (x + 1)) (by simp) rs (sizeL (by omega)) ?_]
  rotate_left
  · intro x hx
    refine ⟨_, tg_n _ _ _, ?_⟩
    try simp [-Prod.forall, -Prod.exists, -Bool.exists_bool, -Bool.forall_bool, -getElem?_pos, At, List.getElem?_cons_zero, List.getElem?_cons_succ, get_l0, get_l1, get_l2, set_l0, set_l1, set_l2, hl]
  try simp [-Prod.forall, -Prod.exists, -Bool.exists_bool, -Bool.forall_bool, -getElem?_pos, At, List.getElem?_cons_zero, List.getElem?_cons_succ, get_l0, get_l1, get_l2, set_l0, set_l1, set_l2, a2, a6, ct_last]
  have rb := ND.run_bd (h := 120) (by omega)
  refine ⟨hz (by omega), ?_⟩
  refine wp_tk (b := b) (by simp []) (by first | decide | omega) (by first | decide | omega) ?_
  intro t b1 t0 t1
  try simp [-Prod.forall, -Prod.exists, -Bool.exists_bool, -Bool.forall_bool, -getElem?_pos, At, List.getElem?_cons_zero, List.getElem?_cons_succ, get_l0, get_l1, get_l2, set_l0, set_l1, set_l2]
  refine ⟨hz (by decide), hz (by omega), ?_⟩
  have el : rs.map AV.int ++ (rs.map (fun x => AV.int (x + 1)) ++ [AV.int t]) = (rs ++ (rs.map (· + 1) ++ [t])).map AV.int := by simp
  rw [el]
  refine wp_forE AV.int _ (fun ρ' S' => S' = S ++ [b1.o, .dct false (day.map dk), .lst (ctL (run day) 120), .lst (ctL (still day 0) 120)] ∧ ρ'.length = 16 ∧ At ρ' 0 (.scr ns) ∧ At ρ' 3 (dayA day) ∧ At ρ' 5 (.int (F 0 day 119)) ∧ At ρ' 6 (.loc (S.length + 2))) ⟨rfl, hl, a0, a3, a5, a6⟩ (fun _ _ _ => by simp) ?_ (fun ρ' S' h => hM _ _ h.2.1 h.2.2.1)
  clear a0 a2 a3 a5 a6 a11 hl
  rintro x ρ S' hx ⟨rfl, hl, a0, a3, a5, a6⟩ M2 hM2
  have hx : 0 ≤ x ∧ x ≤ 1000000 := by
    rcases List.mem_append.1 hx with hx | hx
    · have := rbd x hx
      omega
    · rcases List.mem_append.1 hx with hx | hx
      · obtain ⟨y, hy, rfl⟩ := List.mem_map.1 hx
        have := rbd y hy
        omega
      · rw [List.mem_singleton.1 hx]
        omega
  refine ⟨_, tg_n _ _ _, ?_⟩
  exact one_run ND (by simp [hl]) hx.1 hx.2 (by try simp [-Prod.forall, -Prod.exists, -Bool.exists_bool, -Bool.forall_bool, -getElem?_pos, At, List.getElem?_cons_zero, List.getElem?_cons_succ, get_l0, get_l1, get_l2, set_l0, set_l1, set_l2, a0]) (by try simp [-Prod.forall, -Prod.exists, -Bool.exists_bool, -Bool.forall_bool, -getElem?_pos, At, List.getElem?_cons_zero, List.getElem?_cons_succ, get_l0, get_l1, get_l2, set_l0, set_l1, set_l2, a3]) (by try simp [-Prod.forall, -Prod.exists, -Bool.exists_bool, -Bool.forall_bool, -getElem?_pos, At, List.getElem?_cons_zero, List.getElem?_cons_succ, get_l0, get_l1, get_l2, set_l0, set_l1, set_l2, a5]) (by try simp [-Prod.forall, -Prod.exists, -Bool.exists_bool, -Bool.forall_bool, -getElem?_pos, At, List.getElem?_cons_zero, List.getElem?_cons_succ, get_l0, get_l1, get_l2, set_l0, set_l1, set_l2, a6]) (by try simp [-Prod.forall, -Prod.exists, -Bool.exists_bool, -Bool.forall_bool, -getElem?_pos, At, List.getElem?_cons_zero, List.getElem?_cons_succ, get_l0, get_l1, get_l2, set_l0, set_l1, set_l2, hl]) (get_l2 _ _ _ _ _) fun ρ' b0 b1 b2 b3 b4 => hM2 _ _ ⟨rfl, b0, b1, b2, b3, b4⟩
theorem law_true (ns : List Int) (h : ns.length ≤ 63) : ∃ S', d_law [.scr ns] [] = .ok (.bl true) S' := law_main (by decide) (by decide) (by decide) (k_one ns)
end VI

namespace VE
open PySem PySem.Spec PyProof.Rows L2 VI

def topS (i : Nat) : Stmt := PySem.Challenge.pw_roundrope_k06_runs_by_the_hour.main.body.getD i (.Pass ⟨0, 0, 0, 0⟩)

abbrev s0 : Stmt := topS 1
theorem sc0 : FnScope ["day", "hour", "total", "k", "end", "begin", "pace"] ["day", "hour"] (defScope s0) := ⟨rfl, rfl, rfl, by decide +kernel, rfl, by decide +kernel, by decide +kernel⟩
theorem ce0 : ceSs ["day", "hour", "total", "k", "end", "begin", "pace"] (defScope s0) b_run_at (defBody s0) = true := by decide +kernel
abbrev s1 : Stmt := topS 2
theorem sc1 : FnScope ["day", "run", "k", "left", "begin", "pace", "hour"] ["day", "run"] (defScope s1) := ⟨rfl, rfl, rfl, by decide +kernel, rfl, by decide +kernel, by decide +kernel⟩
theorem ce1 : ceSs ["day", "run", "k", "left", "begin", "pace", "hour"] (defScope s1) b_hour_at (defBody s1) = true := by decide +kernel
abbrev s2 : Stmt := topS 3
theorem sc2 : FnScope ["day", "first", "last", "found", "rows", "k", "end", "begin", "pace"] ["day", "first", "last"] (defScope s2) := ⟨rfl, rfl, rfl, by decide +kernel, rfl, by decide +kernel, by decide +kernel⟩
theorem ce2 : ceSs ["day", "first", "last", "found", "rows", "k", "end", "begin", "pace"] (defScope s2) b_hours_still (defBody s2) = true := by decide +kernel
abbrev s3 : Stmt := topS 5
theorem sc3 : FnScope ["bag", "found", "hour", "row", "pace", "one"] ["bag"] (defScope s3) := ⟨rfl, rfl, rfl, by decide +kernel, rfl, by decide +kernel, by decide +kernel⟩
theorem ce3 : ceSs ["bag", "found", "hour", "row", "pace", "one"] (defScope s3) b_law_near_day (defBody s3) = true := by decide +kernel
abbrev s4 : Stmt := topS 6
theorem sc4 : FnScope ["script", "k", "cell"] ["script", "k"] (defScope s4) := ⟨rfl, rfl, rfl, by decide +kernel, rfl, by decide +kernel, by decide +kernel⟩
theorem ce4 : ceSs ["script", "k", "cell"] (defScope s4) b_law_bag (defBody s4) = true := by decide +kernel
abbrev s5 : Stmt := topS 7
theorem sc5 : FnScope ["bag", "many", "found"] ["bag", "many"] (defScope s5) := ⟨rfl, rfl, rfl, by decide +kernel, rfl, by decide +kernel, by decide +kernel⟩
theorem ce5 : ceSs ["bag", "many", "found"] (defScope s5) b_law_take (defBody s5) = true := by decide +kernel
abbrev s6 : Stmt := topS 8
theorem sc6 : FnScope ["script", "k", "bag", "day", "paces", "pace", "runs", "still", "hour", "first", "last", "some", "run", "due", "found", "one"] ["script"] (defScope s6) := ⟨rfl, rfl, rfl, by decide +kernel, rfl, by decide +kernel, by decide +kernel⟩
theorem ce6 : ceSs ["script", "k", "bag", "day", "paces", "pace", "runs", "still", "hour", "first", "last", "some", "run", "due", "found", "one"] (defScope s6) b_law (defBody s6) = true := by decide +kernel
section
variable {K : PySem.W.Frag}
end
section
variable {P : Program} {w : World} {K : PySem.W.Frag} {mg : Str → Option Value} {base : Heap}
theorem ok0 {f : Addr} {fd : FuncData} (F : FunA K "run_at" "run_at" s0 f fd) (hm : mg "run_at" = some (.ref f)) (hb : Binds K fd ["day", "hour"] []) (z0 : mg "enumerate" = none) (z1 : mg "len" = none) (z2 : mg "min" = none) : Fx P w K mg base 2 "run_at" d_run_at := by
  refine fx_ok (keep := false) F hm hb sc0 ce0 ?_
  simp only [b_run_at, w_run_at_0, LkS, Lk]
  repeat' (first | exact True.intro | assumption | apply And.intro)
theorem ok1 {f : Addr} {fd : FuncData} (F : FunA K "hour_at" "hour_at" s1 f fd) (hm : mg "hour_at" = some (.ref f)) (hb : Binds K fd ["day", "run"] []) (x0 : Fx P w K mg base 2 "run_at" d_run_at) (z0 : mg "enumerate" = none) (z1 : mg "len" = none) : Fx P w K mg base 3 "hour_at" d_hour_at := by
  refine fx_ok (keep := false) F hm hb sc1 ce1 ?_
  simp only [b_hour_at, w_hour_at_0, LkS, Lk]
  repeat' (first | exact True.intro | assumption | apply And.intro)
theorem ok2 {f : Addr} {fd : FuncData} (F : FunA K "hours_still" "hours_still" s2 f fd) (hm : mg "hours_still" = some (.ref f)) (hb : Binds K fd ["day", "first", "last"] []) (z0 : mg "enumerate" = none) (z1 : mg "len" = none) (z2 : mg "min" = none) (z3 : mg "max" = none) (e_0 : FormOk P w K mg base 1 fAddF) : Fx P w K mg base 2 "hours_still" d_hours_still := by
  refine fx_ok (keep := false) F hm hb sc2 ce2 ?_
  simp only [b_hours_still, w_hours_still_0, LkS, Lk]
  repeat' (first | exact True.intro | assumption | apply And.intro)
theorem ok3 {f : Addr} {fd : FuncData} (F : FunA K "_law_near_day" "_law_near_day" s3 f fd) (hm : mg "_law_near_day" = some (.ref f)) (hb : Binds K fd ["bag"] []) (x5 : Fx P w K mg base 2 "_law_take" d_law_take) (z4 : mg "range" = none) (z5 : mg "tuple" = none) (e_0 : FormOk P w K mg base 2 fTupF) : Fx P w K mg base 3 "_law_near_day" d_law_near_day := by
  refine fx_ok (keep := false) F hm hb sc3 ce3 ?_
  simp only [b_law_near_day, c_law_near_day_0, w_law_near_day_0, LkS, Lk]
  repeat' (first | exact True.intro | assumption | apply And.intro)
theorem ok4 {f : Addr} {fd : FuncData} (F : FunA K "_law_bag" "_law_bag" s4 f fd) (hm : mg "_law_bag" = some (.ref f)) (hb : Binds K fd ["script", "k"] []) (z1 : mg "len" = none) : Fx P w K mg base 2 "_law_bag" d_law_bag := by
  refine fx_ok (keep := true) F hm hb sc4 ce4 ?_
  simp only [b_law_bag, LkS, Lk]
  repeat' (first | exact True.intro | assumption | apply And.intro)
theorem ok5 {f : Addr} {fd : FuncData} (F : FunA K "_law_take" "_law_take" s5 f fd) (hm : mg "_law_take" = some (.ref f)) (hb : Binds K fd ["bag", "many"] []) : Fx P w K mg base 2 "_law_take" d_law_take := by
  refine fx_ok (keep := true) F hm hb sc5 ce5 ?_
  simp only [b_law_take, LkS, Lk]
  repeat' (first | exact True.intro | assumption | apply And.intro)
theorem ok6 {f : Addr} {fd : FuncData} (F : FunA K "law" "law" s6 f fd) (x0 : Fx P w K mg base 3 "run_at" d_run_at) (x1 : Fx P w K mg base 3 "hour_at" d_hour_at) (x2 : Fx P w K mg base 3 "hours_still" d_hours_still) (x3 : Fx P w K mg base 3 "_law_near_day" d_law_near_day) (x4 : Fx P w K mg base 3 "_law_bag" d_law_bag) (x5 : Fx P w K mg base 3 "_law_take" d_law_take) (z4 : mg "range" = none) (z6 : mg "dict" = none) (z7 : mg "sorted" = none) (z2 : mg "min" = none) (z8 : mg "set" = none) (z1 : mg "len" = none) (z9 : mg "int" = none) (e_0 : FormOk P w K mg base 3 fSetA) (e_1 : FormOk P w K mg base 3 fGet2) (e_2 : FormOk P w K mg base 3 fDictF) : FnOk P w K mg base CX0 4 f fd ["script"] (spOf K d_law) := by
  refine fn_ok (keep := false) F sc6 ce6 ?_
  simp only [b_law, c_law_0, c_law_1, w_law_0, w_law_1, c_law_2, w_law_2, w_law_3, LkS, Lk]
  repeat' (first | exact True.intro | assumption | apply And.intro)
theorem all_mk {l : PySem.W.OpenLaw} {w : World} {K : PySem.W.Frag} {h : Heap} {mg : Str → Option Value} {fa f0 f1 f2 f3 f4 f5 f6 : Addr} {od0 an0 od1 an1 od2 an2 od3 an3 od4 an4 od5 an5 od6 an6 : Option Addr} {sl0 sl1 sl2 sl3 sl4 sl5 sl6 : Array (Option Value)} {oc0 kV0 dc0 pm0 cd0 ct0 oc1 kV1 dc1 pm1 cd1 ct1 oc2 kV2 dc2 pm2 cd2 ct2 oc3 kV3 dc3 pm3 cd3 ct3 oc4 kV4 dc4 pm4 cd4 ct4 oc5 kV5 dc5 pm5 cd5 ct5 oc6 kV6 dc6 pm6 cd6 ct6 : Value} (X : K.In h) (G : h.Ns mainGlobals mg) (hfa : mg "law" = some (.ref fa)) (a0 : PySem.W.nsIn K mainGlobals "run_at" = some (some (.ref f0))) (l0 : K.lookup f0 = some ⟨oc0, od0, .func (PySem.W.fnOf "run_at" "run_at" (defArgs s0) (defBody s0) (defScope s0) .none kV0 dc0 pm0 an0 cd0 ct0), sl0⟩) (c0 : PySem.W.codeIn K cd0 "run_at" = true) (k0 : PySem.W.keepIn K (.ref f0) = true) (a1 : PySem.W.nsIn K mainGlobals "hour_at" = some (some (.ref f1))) (l1 : K.lookup f1 = some ⟨oc1, od1, .func (PySem.W.fnOf "hour_at" "hour_at" (defArgs s1) (defBody s1) (defScope s1) .none kV1 dc1 pm1 an1 cd1 ct1), sl1⟩) (c1 : PySem.W.codeIn K cd1 "hour_at" = true) (k1 : PySem.W.keepIn K (.ref f1) = true) (a2 : PySem.W.nsIn K mainGlobals "hours_still" = some (some (.ref f2))) (l2 : K.lookup f2 = some ⟨oc2, od2, .func (PySem.W.fnOf "hours_still" "hours_still" (defArgs s2) (defBody s2) (defScope s2) .none kV2 dc2 pm2 an2 cd2 ct2), sl2⟩) (c2 : PySem.W.codeIn K cd2 "hours_still" = true) (k2 : PySem.W.keepIn K (.ref f2) = true) (a3 : PySem.W.nsIn K mainGlobals "_law_near_day" = some (some (.ref f3))) (l3 : K.lookup f3 = some ⟨oc3, od3, .func (PySem.W.fnOf "_law_near_day" "_law_near_day" (defArgs s3) (defBody s3) (defScope s3) .none kV3 dc3 pm3 an3 cd3 ct3), sl3⟩) (c3 : PySem.W.codeIn K cd3 "_law_near_day" = true) (k3 : PySem.W.keepIn K (.ref f3) = true) (a4 : PySem.W.nsIn K mainGlobals "_law_bag" = some (some (.ref f4))) (l4 : K.lookup f4 = some ⟨oc4, od4, .func (PySem.W.fnOf "_law_bag" "_law_bag" (defArgs s4) (defBody s4) (defScope s4) .none kV4 dc4 pm4 an4 cd4 ct4), sl4⟩) (c4 : PySem.W.codeIn K cd4 "_law_bag" = true) (k4 : PySem.W.keepIn K (.ref f4) = true) (a5 : PySem.W.nsIn K mainGlobals "_law_take" = some (some (.ref f5))) (l5 : K.lookup f5 = some ⟨oc5, od5, .func (PySem.W.fnOf "_law_take" "_law_take" (defArgs s5) (defBody s5) (defScope s5) .none kV5 dc5 pm5 an5 cd5 ct5), sl5⟩) (c5 : PySem.W.codeIn K cd5 "_law_take" = true) (k5 : PySem.W.keepIn K (.ref f5) = true) (a6 : PySem.W.nsIn K mainGlobals "law" = some (some (.ref f6))) (l6 : K.lookup f6 = some ⟨oc6, od6, .func (PySem.W.fnOf "law" "law" (defArgs s6) (defBody s6) (defScope s6) .none kV6 dc6 pm6 an6 cd6 ct6), sl6⟩) (c6 : PySem.W.codeIn K cd6 "law" = true) (k6 : PySem.W.keepIn K (.ref f6) = true) (z0 : PySem.W.nsIn K mainGlobals "enumerate" = some none) (z1 : PySem.W.nsIn K mainGlobals "len" = some none) (z2 : PySem.W.nsIn K mainGlobals "min" = some none) (z3 : PySem.W.nsIn K mainGlobals "max" = some none) (z4 : PySem.W.nsIn K mainGlobals "range" = some none) (z5 : PySem.W.nsIn K mainGlobals "tuple" = some none) (z6 : PySem.W.nsIn K mainGlobals "dict" = some none) (z7 : PySem.W.nsIn K mainGlobals "sorted" = some none) (z8 : PySem.W.nsIn K mainGlobals "set" = some none) (z9 : PySem.W.nsIn K mainGlobals "int" = some none) :
    ∃ fd : FuncData, (∀ (s : Shared) (v : Value), BindsTo s fd ⟨[v], []⟩ [("script", v)]) ∧ ∀ base : Heap, K.In base → base.Ns mainGlobals mg → FnOk l.prog w K mg base CX0 4 fa fd ["script"] (spOf K d_law) := by
  have e := hfa.symm.trans (PySem.W.mg_of X G a6)
  cases e
  have F0' := fun_mk (st := s0) l0 c0 k0
  have b0 := F0'.binds (ps := ["day", "hour"]) fun _ _ _ _ _ _ us hl => match us, hl with | [_, _], _ => rfl
  have F0 := F0'.a
  have m0 := PySem.W.mg_of X G a0
  have F1' := fun_mk (st := s1) l1 c1 k1
  have b1 := F1'.binds (ps := ["day", "run"]) fun _ _ _ _ _ _ us hl => match us, hl with | [_, _], _ => rfl
  have F1 := F1'.a
  have m1 := PySem.W.mg_of X G a1
  have F2' := fun_mk (st := s2) l2 c2 k2
  have b2 := F2'.binds (ps := ["day", "first", "last"]) fun _ _ _ _ _ _ us hl => match us, hl with | [_, _, _], _ => rfl
  have F2 := F2'.a
  have m2 := PySem.W.mg_of X G a2
  have F3' := fun_mk (st := s3) l3 c3 k3
  have b3 := F3'.binds (ps := ["bag"]) fun _ _ _ _ _ _ us hl => match us, hl with | [_], _ => rfl
  have F3 := F3'.a
  have m3 := PySem.W.mg_of X G a3
  have F4' := fun_mk (st := s4) l4 c4 k4
  have b4 := F4'.binds (ps := ["script", "k"]) fun _ _ _ _ _ _ us hl => match us, hl with | [_, _], _ => rfl
  have F4 := F4'.a
  have m4 := PySem.W.mg_of X G a4
  have F5' := fun_mk (st := s5) l5 c5 k5
  have b5 := F5'.binds (ps := ["bag", "many"]) fun _ _ _ _ _ _ us hl => match us, hl with | [_, _], _ => rfl
  have F5 := F5'.a
  have m5 := PySem.W.mg_of X G a5
  have F6' := fun_mk (st := s6) l6 c6 k6
  have b6 := F6'.binds (ps := ["script"]) fun _ _ _ _ _ _ us hl => match us, hl with | [_], _ => rfl
  have F6 := F6'.a
  have m6 := PySem.W.mg_of X G a6
  have y0 := PySem.W.mg_none_of X G z0
  have y1 := PySem.W.mg_none_of X G z1
  have y2 := PySem.W.mg_none_of X G z2
  have y3 := PySem.W.mg_none_of X G z3
  have y4 := PySem.W.mg_none_of X G z4
  have y5 := PySem.W.mg_none_of X G z5
  have y6 := PySem.W.mg_none_of X G z6
  have y7 := PySem.W.mg_none_of X G z7
  have y8 := PySem.W.mg_none_of X G z8
  have y9 := PySem.W.mg_none_of X G z9
  refine ⟨PySem.W.fnOf "law" "law" (defArgs s6) (defBody s6) (defScope s6) .none kV6 dc6 pm6 an6 cd6 ct6, fun s v => .of_eq rfl, fun base _ _ => ?_⟩
  have x0 := ok0 (P := l.prog) (w := w) (mg := mg) (base := base) F0 m0 b0 y0 y1 y2
  have x2 := ok2 (P := l.prog) (w := w) (mg := mg) (base := base) F2 m2 b2 y0 y1 y2 y3 (fAddF_ok )
  have x4 := ok4 (P := l.prog) (w := w) (mg := mg) (base := base) F4 m4 b4 y1
  have x5 := ok5 (P := l.prog) (w := w) (mg := mg) (base := base) F5 m5 b5
  have x1 := ok1 (P := l.prog) (w := w) (mg := mg) (base := base) F1 m1 b1 (x0.mono (by decide)) y0 y1
  have x3 := ok3 (P := l.prog) (w := w) (mg := mg) (base := base) F3 m3 b3 (x5.mono (by decide)) y4 y5 (fTupF_ok y5)
  exact ok6 (P := l.prog) (w := w) (mg := mg) (base := base) F6 (x0.mono (by decide)) (x1.mono (by decide)) (x2.mono (by decide)) (x3.mono (by decide)) (x4.mono (by decide)) (x5.mono (by decide)) y4 y6 y7 y2 y8 y1 y9 (fSetA_ok y7 y8) (fGet2_ok ) (fDictF_ok y6)
end
end VE
open PySem PySem.W PyProof.Rows
set_option maxHeartbeats 0 in
theorem PySem.Challenge.cw_roundrope_k06_runs_by_the_hour_holds : PySem.Challenge.rw_roundrope_k06_runs_by_the_hour.Holds := by
  w_on; o_law; k_head; (case hw => w_witness2)
  k_fill
  refine L2.walk_ofK (l := PySem.Challenge.rw_roundrope_k06_runs_by_the_hour) (n := 63) (k := 4) (x := "script") (CX := L2.CX0) (sp := fun K => VI.spOf K VI.d_law) rfl (by decide) rfl ⟨rfl, by decide, by decide⟩ (fun w h Y => PySem.W.kIn_of Y) ?F (VI.law_sp VI.law_true) (fun _ _ _ _ h => h)
  case F =>
    intro w mg fa h KX G hmg
    refine' VE.all_mk KX G hmg ?a0 ?l0 ?c0 ?k0 ?a1 ?l1 ?c1 ?k1 ?a2 ?l2 ?c2 ?k2 ?a3 ?l3 ?c3 ?k3 ?a4 ?l4 ?c4 ?k4 ?a5 ?l5 ?c5 ?k5 ?a6 ?l6 ?c6 ?k6 ?z0 ?z1 ?z2 ?z3 ?z4 ?z5 ?z6 ?z7 ?z8 ?z9
    (case a0 => k_is); (case l0 => k_is); (case c0 => k_is); (case k0 => k_is); (case a1 => k_is); (case l1 => k_is); (case c1 => k_is); (case k1 => k_is); (case a2 => k_is); (case l2 => k_is); (case c2 => k_is); (case k2 => k_is); (case a3 => k_is); (case l3 => k_is); (case c3 => k_is); (case k3 => k_is); (case a4 => k_is); (case l4 => k_is); (case c4 => k_is); (case k4 => k_is); (case a5 => k_is); (case l5 => k_is); (case c5 => k_is); (case k5 => k_is); (case a6 => k_is); (case l6 => k_is); (case c6 => k_is); (case k6 => k_is); (case z0 => k_is); (case z1 => k_is); (case z2 => k_is); (case z3 => k_is); (case z4 => k_is); (case z5 => k_is); (case z6 => k_is); (case z7 => k_is); (case z8 => k_is); (case z9 => k_is)
